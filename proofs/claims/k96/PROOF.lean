import PyProof.Rows.All
import Wide.All
import OpenK.AllK
import Wide.FinOn
import HandS.ForMost
import HandS.ForExc
import HandS.IsInst
import HandS.TupAny
import HandS.Wide
import HandS.Exc
import HandS.ExcOwn
import HandS.TupMul
import HandS.Iter
import HandS.TryOnly
import HandS.Style
import HandS.Deep
import HandS.Rev
import HandS.Zip
import HandS.ExcIs
import HandS.SortKw
import KE.SortKeyHeap
import KE.GoesMore
import KE.GoesZip
import HandS.SetFor
import KE.KTupSum
import HandS.More
import HandS.Dict
import HandS.Conv
import HandS.TupSets
import PySem.Challenge.RW_longrounds_k96_whole_any_rows
set_option Elab.async false
set_option linter.all false
set_option maxRecDepth 100000
set_option maxHeartbeats 4000000
set_option Elab.async false
set_option linter.all false
set_option maxRecDepth 100000
set_option maxHeartbeats 4000000
/-! The layer LR, part a: data on the heap, cells, what is kept, judgements of expressions. -/
namespace LR
open PySem PySem.Spec PyProof.Rows L2

/-- an object of the def's own that may still change -/
inductive Ob where
  | lst (ds : List PyData)
  | dct (kvs : List (Key × PyData))
  | dtt (kvs : List (List Key × PyData))
/-- what is known of a name (rf: it holds that reference; tpo: of results alone: a new tuple of data ds and behind them a new list es; kn: that reference, which is such data) -/
inductive C where
  | un
  | dat (d : PyData)
  | own (o : Ob)
  | rf (a : Addr)
  | tpo (ds es : List PyData)
  | kn (a : Addr) (d : PyData)

/-! data on the heap; tuples are tracked objects -/
mutual
inductive Dp (K : PySem.W.Frag) (H : Hp) : V → PyData → Prop
  | non : Dp K H .non .none
  | bl (b : Bool) : Dp K H (.bl b) (.bool b)
  | int (i : Int) : Dp K H (.int i) (.int i)
  | str (x : Str) : Dp K H (.str x) (.str x)
  | lst {a : Addr} {xs : List V} {ds : List PyData} : SqL K H a xs → DpAll K H xs ds → Dp K H (.ref a) (.list ds)
  | tup {a : Addr} {xs : List V} {ds : List PyData} : H a = some (.tup xs) → DpAll K H xs ds → Dp K H (.ref a) (.tuple ds)
  | dic {a : Addr} {kvs : List (Key × V)} : H a = some (.dK kvs) → Dp K H (.ref a) (.dict [])
inductive DpAll (K : PySem.W.Frag) (H : Hp) : List V → List PyData → Prop
  | nil : DpAll K H [] []
  | cons {v : V} {vs : List V} {d : PyData} {ds : List PyData} : Dp K H v d → DpAll K H vs ds → DpAll K H (v :: vs) (d :: ds)
end
section
variable {K : PySem.W.Frag}
mutual
theorem Dp.kit0 {H : Hp} : ∀ {v : V} {d : PyData}, Dp K H v d → d.canLay0 = true → L2.Dp K H v d
  | _, _, .non, _ => .non
  | _, _, .bl b, _ => .bl b
  | _, _, .int i, _ => .int i
  | _, _, .str x, _ => .str x
  | _, _, .lst h a, l => .lst h (DpAll.kit0 a (by simpa [PyData.canLay0] using l))
  | _, _, .tup h a, l => .tup (.inl (.inl h)) (DpAll.kit0 a (by simpa [PyData.canLay0] using l))
  | _, _, .dic h, l => by simp [PyData.canLay0] at l
theorem DpAll.kit0 {H : Hp} : ∀ {vs : List V} {ds : List PyData}, DpAll K H vs ds → PyData.canLayAll0 ds = true → L2.DpAll K H vs ds
  | _, _, .nil, _ => .nil
  | _, _, .cons h t, l => by
    simp only [PyData.canLayAll0, Bool.and_eq_true] at l
    exact .cons (Dp.kit0 h l.1) (DpAll.kit0 t l.2)
end
theorem Dp.kit {H : Hp} {v : V} {d : PyData} (h : Dp K H v d) (s : SeqAt.shaped d = true) : L2.Dp K H v d := h.kit0 (by
  unfold SeqAt.shaped at s
  rw [Bool.and_eq_true] at s
  exact s.1)
mutual
theorem dp_mono {H H' : Hp} (e : Same H H') : ∀ {v : V} {d : PyData}, Dp K H v d → Dp K H' v d
  | _, _, .non => .non
  | _, _, .bl b => .bl b
  | _, _, .int i => .int i
  | _, _, .str x => .str x
  | _, _, .lst h a => .lst (e.seq h) (dpAll_mono e a)
  | _, _, .tup h a => .tup (e _ _ h) (dpAll_mono e a)
  | _, _, .dic h => .dic (e _ _ h)
theorem dpAll_mono {H H' : Hp} (e : Same H H') : ∀ {vs : List V} {ds : List PyData}, DpAll K H vs ds → DpAll K H' vs ds
  | _, _, .nil => .nil
  | _, _, .cons h t => .cons (dp_mono e h) (dpAll_mono e t)
end
theorem same_l {H H' : Hp} {a : Addr} {xs : List V} (e : Same H H') (h : SqL K H a xs) : SqL K H' a xs := e.seq h
theorem same_t {H H' : Hp} {a : Addr} {xs : List V} (e : Same H H') (h : SqT K H a xs) : SqT K H' a xs := by
  rcases h with (h | ⟨o, h⟩) | h
  · exact .inl (.inl (e _ _ h))
  · exact .inl (.inr ⟨o, e _ _ h⟩)
  · exact .inr h
theorem dpAll_len {H : Hp} : ∀ {vs : List V} {ds : List PyData}, DpAll K H vs ds → vs.length = ds.length
  | _, _, .nil => rfl
  | _, _, .cons _ t => by rw [List.length_cons, List.length_cons, dpAll_len t]
theorem dpAll_get {H : Hp} : ∀ {vs : List V} {ds : List PyData}, DpAll K H vs ds → ∀ {i : Nat} {d : PyData}, ds[i]? = some d → ∃ v, vs[i]? = some v ∧ Dp K H v d
  | _, _, .nil, _, _, e => by simp at e
  | _, _, .cons h _, 0, _, e => by simp at e; subst e; exact ⟨_, rfl, h⟩
  | _, _, .cons _ t, i + 1, d, e => by
    obtain ⟨v, h1, h2⟩ := dpAll_get t (i := i) (d := d) (by simpa using e)
    exact ⟨v, by simpa using h1, h2⟩
theorem dpAll_getV {H : Hp} : ∀ {vs : List V} {ds : List PyData}, DpAll K H vs ds → ∀ {i : Nat} {v : V}, vs[i]? = some v → ∃ d, ds[i]? = some d ∧ Dp K H v d
  | _, _, .nil, _, _, e => by simp at e
  | _, _, .cons h _, 0, _, e => by simp at e; subst e; exact ⟨_, rfl, h⟩
  | _, _, .cons _ t, i + 1, d, e => by
    obtain ⟨v, h1, h2⟩ := dpAll_getV t (i := i) (v := d) (by simpa using e)
    exact ⟨v, by simpa using h1, h2⟩
theorem dpAll_append {H : Hp} : ∀ {vs ws : List V} {ds es : List PyData}, DpAll K H vs ds → DpAll K H ws es → DpAll K H (vs ++ ws) (ds ++ es)
  | _, _, _, _, .nil, s => s
  | _, _, _, _, .cons h t, s => .cons h (dpAll_append t s)
theorem dpAll_one {H : Hp} {v : V} {d : PyData} (h : Dp K H v d) : DpAll K H [v] [d] := .cons h .nil
theorem dpAll_take {H : Hp} : ∀ {vs : List V} {ds : List PyData} (n : Nat), DpAll K H vs ds → DpAll K H (vs.take n) (ds.take n)
  | _, _, 0, _ => .nil
  | _, _, _ + 1, .nil => .nil
  | _, _, n + 1, .cons h t => .cons h (dpAll_take n t)
theorem dpAll_drop {H : Hp} : ∀ {vs : List V} {ds : List PyData} (n : Nat), DpAll K H vs ds → DpAll K H (vs.drop n) (ds.drop n)
  | _, _, 0, h => h
  | _, _, _ + 1, .nil => .nil
  | _, _, n + 1, .cons _ t => dpAll_drop n t
theorem dpAll_set {H : Hp} {v : V} {d : PyData} (h : Dp K H v d) : ∀ {vs : List V} {ds : List PyData} (n : Nat), DpAll K H vs ds → DpAll K H (vs.set n v) (ds.set n d)
  | _, _, _, .nil => .nil
  | _, _, 0, .cons _ t => .cons h t
  | _, _, n + 1, .cons q t => .cons q (dpAll_set h n t)
theorem dpAll_dropLast {H : Hp} {vs : List V} {ds : List PyData} (h : DpAll K H vs ds) : DpAll K H vs.dropLast ds.dropLast := by
  rw [List.dropLast_eq_take, List.dropLast_eq_take, dpAll_len h]
  exact dpAll_take _ h
theorem dpAll_reverse {H : Hp} : ∀ {vs : List V} {ds : List PyData}, DpAll K H vs ds → DpAll K H vs.reverse ds.reverse
  | _, _, .nil => .nil
  | _, _, .cons h t => by
    rw [List.reverse_cons, List.reverse_cons]
    exact dpAll_append (dpAll_reverse t) (dpAll_one h)
theorem dpAll_ints {H : Hp} : ∀ (ns : List Int), DpAll K H (ns.map V.int) (ns.map PyData.int)
  | [] => .nil
  | n :: r => .cons (.int n) (dpAll_ints r)
theorem dp_int {H : Hp} {v : V} {i : Int} (h : Dp K H v (.int i)) : v = .int i := by cases h; rfl
theorem dp_str {H : Hp} {v : V} {x : Str} (h : Dp K H v (.str x)) : v = .str x := by cases h; rfl
theorem dp_bool {H : Hp} {v : V} {b : Bool} (h : Dp K H v (.bool b)) : v = .bl b := by cases h; rfl
theorem dp_none {H : Hp} {v : V} (h : Dp K H v .none) : v = .non := by cases h; rfl
theorem dp_tup {H : Hp} {v : V} {ds : List PyData} (h : Dp K H v (.tuple ds)) : ∃ a xs, v = .ref a ∧ SqT K H a xs ∧ DpAll K H xs ds := by cases h; exact ⟨_, _, rfl, .inl (.inl (by assumption)), by assumption⟩
theorem dp_tupH {H : Hp} {v : V} {ds : List PyData} (h : Dp K H v (.tuple ds)) : ∃ a xs, v = .ref a ∧ H a = some (.tup xs) ∧ DpAll K H xs ds := by cases h; exact ⟨_, _, rfl, by assumption, by assumption⟩
theorem dp_lst {H : Hp} {v : V} {ds : List PyData} (h : Dp K H v (.list ds)) : ∃ a xs, v = .ref a ∧ SqL K H a xs ∧ DpAll K H xs ds := by cases h; exact ⟨_, _, rfl, by assumption, by assumption⟩
theorem ints_of {H : Hp} : ∀ {vs : List V} {ns : List Int}, DpAll K H vs (ns.map PyData.int) → vs = ns.map V.int
  | _, [], .nil => rfl
  | _, n :: r, .cons h t => by rw [dp_int h, ints_of t]; rfl
theorem strs_of {H : Hp} : ∀ {vs : List V} {ns : List Str}, DpAll K H vs (ns.map PyData.str) → vs = ns.map V.str
  | _, [], .nil => rfl
  | _, n :: r, .cons h t => by rw [dp_str h, strs_of t]; rfl
theorem bls_of {H : Hp} : ∀ {vs : List V} {ns : List Bool}, DpAll K H vs (ns.map PyData.bool) → vs = ns.map V.bl
  | _, [], .nil => rfl
  | _, n :: r, .cons h t => by rw [dp_bool h, bls_of t]; rfl

def ObAt (K : PySem.W.Frag) (I : Hp) : HO → Ob → Prop
  | .lst vs, .lst ds => DpAll K I vs ds
  | .dK kvs, .dct es => kvs.map (·.1) = es.map (·.1) ∧ DpAll K I (kvs.map (·.2)) (es.map (·.2))
  | .dT kvs, .dtt es => kvs.map (·.1) = es.map (·.1) ∧ DpAll K I (kvs.map (·.2)) (es.map (·.2))
  | _, _ => False
theorem obAt_mono {I I' : Hp} (e : Same I I') : ∀ {o : HO} {b : Ob}, ObAt K I o b → ObAt K I' o b := by
  intro o b h
  cases o <;> cases b <;> first
    | exact dpAll_mono e h
    | exact ⟨h.1, dpAll_mono e h.2⟩
    | exact h
theorem obAt_lst {I : Hp} {o : HO} {ds : List PyData} (h : ObAt K I o (.lst ds)) : ∃ vs, o = .lst vs ∧ DpAll K I vs ds := by
  cases o <;> first | exact ⟨_, rfl, h⟩ | exact h.elim

/-- from (I, H) to (I', H'): nothing that stood has changed, and what is new in I' was new -/
structure Grow (I H I' H' : Hp) : Prop where
  ii : Same I I'
  hh : Same H H'
  ih : Same I' H'
  nw : ∀ q o, H q = some o → I q = none → I' q = none
theorem Grow.refl {I H : Hp} (e : Same I H) : Grow I H I H := ⟨Same.refl _, Same.refl _, e, fun _ _ _ h => h⟩
theorem Grow.trans {I H I1 H1 I2 H2 : Hp} (a : Grow I H I1 H1) (b : Grow I1 H1 I2 H2) : Grow I H I2 H2 :=
  ⟨a.ii.trans b.ii, a.hh.trans b.hh, b.ih, fun q o h n => b.nw q o (a.hh q o h) (a.nw q o h n)⟩
theorem Grow.ih0 {I H I' H' : Hp} (e : Same I H) (a : Grow I H I' H') : Same I H' := fun b o h => a.hh b o (e b o h)
/-- a new object, known to both -/
theorem Grow.new {I H : Hp} {p : Addr} {o : HO} (e : Same I H) (n : H p = none) : Grow I H (upd I p o) (upd H p o) where
  ii := fun b u h => by rw [upd_ne (ne_of_none h (e.free n))]; exact h
  hh := fun b u h => by rw [upd_ne (ne_of_none h n)]; exact h
  ih := fun b u h => by
    by_cases hb : b = p
    · subst hb; rw [upd_same] at h ⊢; exact h
    · rw [upd_ne hb] at h ⊢; exact e b u h
  nw := fun q u h n' => by rw [upd_ne (ne_of_none h n)]; exact n'
/-- a new object, known to the heap alone -/
theorem Grow.newH {I H : Hp} {p : Addr} {o : HO} (e : Same I H) (n : H p = none) : Grow I H I (upd H p o) where
  ii := Same.refl _
  hh := fun b u h => by rw [upd_ne (ne_of_none h n)]; exact h
  ih := fun b u h => by rw [upd_ne (ne_of_none (e b u h) n)]; exact e b u h
  nw := fun _ _ _ h => h
/-- an object that is new since, becomes known -/
theorem Grow.know {I H I' H' : Hp} {p : Addr} {o : HO} (g : Grow I H I' H') (n : H p = none) (n' : I' p = none) (h' : H' p = some o) : Grow I H (upd I' p o) H' where
  ii := fun b u h => by
    have h1 := g.ii b u h
    rw [upd_ne (ne_of_none h1 n')]; exact h1
  hh := g.hh
  ih := fun b u h => by
    by_cases hb : b = p
    · subst hb; rw [upd_same] at h; rw [← h]; exact h'
    · rw [upd_ne hb] at h; exact g.ih b u h
  nw := fun q u h m => by rw [upd_ne (ne_of_none h n)]; exact g.nw q u h m
/-- an object that is new since, and not known, changes -/
theorem Grow.mut {I H I' H' : Hp} {p : Addr} {o : HO} (g : Grow I H I' H') (n : H p = none) (n' : I' p = none) : Grow I H I' (upd H' p o) where
  ii := g.ii
  hh := fun b u h => by rw [upd_ne (ne_of_none h n)]; exact g.hh b u h
  ih := fun b u h => by rw [upd_ne (ne_of_none h n')]; exact g.ih b u h
  nw := g.nw

def CellAt (K : PySem.W.Frag) (H0 I H : Hp) (x : Option (Option V)) : C → Prop
  | .un => True
  | .dat d => ∃ v, x = some (some v) ∧ Dp K I v d
  | .own b => ∃ p o, x = some (some (.ref p)) ∧ H0 p = none ∧ I p = none ∧ H p = some o ∧ ObAt K I o b
  | .rf a => x = some (some (.ref a))
  | .tpo _ _ => True
  | .kn a d => x = some (some (.ref a)) ∧ Dp K I (.ref a) d
def isOwn : Option C → Prop
  | some (.own _) => True
  | _ => False
/-- the state A of the names holds -/
structure Rel (K : PySem.W.Frag) (I0 H0 : Hp) (A : List C) (σ : L2.St) (I H : Hp) : Prop where
  gr : Grow I0 H0 I H
  len : σ.length = A.length
  cell : ∀ (i : Nat) (c : C), A[i]? = some c → CellAt K H0 I H σ[i]? c
  apart : ∀ (i j : Nat) (p : Addr), i ≠ j → isOwn A[i]? → isOwn A[j]? → σ[i]? = some (some (.ref p)) → σ[j]? ≠ some (some (.ref p))
theorem Rel.grow {I0 H0 I H I' H' : Hp} {A : List C} {σ : L2.St} (r : Rel K I0 H0 A σ I H) (g : Grow I H I' H') : Rel K I0 H0 A σ I' H' where
  gr := r.gr.trans g
  len := r.len
  cell := fun i c h => by
    have q := r.cell i c h
    cases c with
    | un => trivial
    | dat d => obtain ⟨v, e, hd⟩ := q; exact ⟨v, e, dp_mono g.ii hd⟩
    | own b => obtain ⟨p, o, e, n0, n, ho, hb⟩ := q; exact ⟨p, o, e, n0, g.nw p o ho n, g.hh p o ho, obAt_mono g.ii hb⟩
    | rf a => exact q
    | tpo ds es => trivial
    | kn a d => exact ⟨q.1, dp_mono g.ii q.2⟩
  apart := r.apart
theorem Rel.ih {I0 H0 I H : Hp} {A : List C} {σ : L2.St} (r : Rel K I0 H0 A σ I H) : Same I H := r.gr.ih

/-- a result -/
def VR (K : PySem.W.Frag) (H I' H' : Hp) (v : V) : C → Prop
  | .un => True
  | .dat d => Dp K I' v d
  | .own b => ∃ p o, v = .ref p ∧ H p = none ∧ I' p = none ∧ H' p = some o ∧ ObAt K I' o b
  | .rf a => v = .ref a
  | .kn a d => v = .ref a ∧ Dp K I' v d
  | .tpo ds es => ∃ p q vs us, v = .ref p ∧ H p = none ∧ I' p = none ∧ H' p = some (.tup (vs ++ [.ref q])) ∧ DpAll K I' vs ds ∧ H q = none ∧ I' q = none ∧ H' q = some (.lst us) ∧ DpAll K I' us es
theorem VR.back {H1 H I' H' : Hp} {v : V} {c : C} (e : Same H1 H) (h : VR K H I' H' v c) : VR K H1 I' H' v c := by
  cases c with
  | un => trivial
  | dat d => exact h
  | own b => obtain ⟨p, o, e1, n, r⟩ := h; exact ⟨p, o, e1, e.free n, r⟩
  | rf a => exact h
  | kn a d => exact h
  | tpo ds es => obtain ⟨p, q, vs, us, e1, n1, n2, h1, a1, m1, m2, h2, a2⟩ := h; exact ⟨p, q, vs, us, e1, e.free n1, n2, h1, a1, e.free m1, m2, h2, a2⟩
end

/-! ### judgements -/
section
variable (X : Cx)
def Wx (e : Expr) (σ : L2.St) (H : Hp) (Q : VK) : Prop := ∀ (pins : List (Addr × Obj)) (s : Shared), Inv X pins σ H s → wpAny (model X.prog X.w) X.A (eval e X.env) (EP X pins σ Q) X.xe s
def Wt (e : Expr) (σ : L2.St) (H : Hp) (Q : Bool → Hp → Prop) : Prop := ∀ (pins : List (Addr × Obj)) (s : Shared), Inv X pins σ H s → wpAny (model X.prog X.w) X.A (isTrue e X.env (eval e X.env)) (TP X pins σ Q) X.xe s
def Ww (e : Expr) (σ : L2.St) (H : Hp) (Q : Bool → Hp → Prop) : Prop := ∀ (whole : Sem Value) (pins : List (Addr × Obj)) (s : Shared), Inv X pins σ H s → wpAny (model X.prog X.w) X.A (isTrue e X.env whole) (TP X pins σ Q) X.xe s
def Wa (es : List Expr) (σ : L2.St) (H : Hp) (Q : List V → Hp → Prop) : Prop := ∀ (pos : Pos) (pins : List (Addr × Obj)) (s : Shared), Inv X pins σ H s → wpAny (model X.prog X.w) X.A (spliced (backTo pos (starEach es X.env))) (AP X pins σ Q) X.xe s
def Ws (st : Stmt) (D : Ends) (σ : L2.St) (H : Hp) : Prop := ∀ (pins : List (Addr × Obj)) (s : Shared), Inv X pins σ H s → wpAny (model X.prog X.w) X.A (exec st X.env) (SP X pins D) X.xe s
def Wss (st : List Stmt) (D : Ends) (σ : L2.St) (H : Hp) : Prop := ∀ (pins : List (Addr × Obj)) (s : Shared), Inv X pins σ H s → wpAny (model X.prog X.w) X.A (execs st X.env) (SP X pins D) X.xe s
end
section
variable {X : Cx} {e a b : Expr} {es : List Expr} {t : TE} {σ : L2.St} {H : Hp} {Q : VK} {A : List C} {pos p : Pos}
theorem wx_pe : PE X e (Wx X e) := ⟨fun pins s σ H Q I h => h pins s I⟩
theorem wx_of (h : PE X e t) (q : t σ H Q) : Wx X e σ H Q := fun pins s I => h.run pins s σ H Q I q
theorem wt_pe : PT X e (Wt X e) := ⟨fun pins s σ H Q I h => h pins s I⟩
theorem wt_of {t : TT} {Q : Bool → Hp → Prop} (h : PT X e t) (q : t σ H Q) : Wt X e σ H Q := fun pins s I => h.run pins s σ H Q I q
theorem ww_pw : PW X e (Ww X e) := ⟨fun whole pins s σ H Q I h => h whole pins s I⟩
theorem ww_of {t : TT} {Q : Bool → Hp → Prop} (h : PW X e t) (q : t σ H Q) : Ww X e σ H Q := fun whole pins s I => h.run whole pins s σ H Q I q
theorem wa_pa : PA X es (Wa X es) := ⟨fun pos pins s σ H Q I h => h pos pins s I⟩
theorem wa_of {t : TA} {Q : List V → Hp → Prop} (h : PA X es t) (q : t σ H Q) : Wa X es σ H Q := fun pos pins s I => h.run pos pins s σ H Q I q
theorem ws_ps {st : Stmt} : PS X st (Ws X st) := ⟨fun pins s σ H D I h => h pins s I⟩
theorem ws_of {st : Stmt} {t : TS} {D : Ends} (h : PS X st t) (q : t D σ H) : Ws X st D σ H := fun pins s I => h.run pins s σ H D I q
theorem wss_pss {st : List Stmt} : PSs X st (Wss X st) := ⟨fun pins s σ H D I h => h pins s I⟩
theorem wss_of {st : List Stmt} {t : TS} {D : Ends} (h : PSs X st t) (q : t D σ H) : Wss X st D σ H := fun pins s I => h.run pins s σ H D I q

variable (X)
/-- the expression evaluates to c -/
def Ev (A : List C) (e : Expr) (c : C) : Prop := ∀ I0 H0 σ I H, Rel X.K I0 H0 A σ I H → ∀ Q : VK, (∀ v I' H', Grow I H I' H' → VR X.K H I' H' v c → Q v H') → Wx X e σ H Q
/-- .. to a list (true), a tuple (false), that is read only -/
def EvS (A : List C) (e : Expr) (k : Bool) (ds : List PyData) : Prop := ∀ I0 H0 σ I H, Rel X.K I0 H0 A σ I H → ∀ Q : VK,
  (∀ p vs I' H', Grow I H I' H' → (if k then SqL X.K H' p vs else SqT X.K H' p vs) → DpAll X.K I' vs ds → Q (.ref p) H') → Wx X e σ H Q
def EvA (A : List C) (es : List Expr) (ds : List PyData) : Prop := ∀ I0 H0 σ I H, Rel X.K I0 H0 A σ I H → ∀ Q : List V → Hp → Prop, (∀ vs I' H', Grow I H I' H' → DpAll X.K I' vs ds → Q vs H') → Wa X es σ H Q
def Et (A : List C) (e : Expr) (b : Bool) : Prop := ∀ I0 H0 σ I H, Rel X.K I0 H0 A σ I H → ∀ Q : Bool → Hp → Prop, (∀ I' H', Grow I H I' H' → Q b H') → Wt X e σ H Q
def Ew (A : List C) (e : Expr) (b : Bool) : Prop := ∀ I0 H0 σ I H, Rel X.K I0 H0 A σ I H → ∀ Q : Bool → Hp → Prop, (∀ I' H', Grow I H I' H' → Q b H') → Ww X e σ H Q
variable {X}

theorem ev_int {i : Int} {j} : Ev X A (.Constant (.int i) j pos) (.dat (.int i)) := fun _ _ _ I H r Q q => wx_of pe_int (q _ I H (.refl r.ih) (Dp.int i))
theorem ev_bl {i : Bool} {j} : Ev X A (.Constant (.bool i) j pos) (.dat (.bool i)) := fun _ _ _ I H r Q q => wx_of pe_bl (q _ I H (.refl r.ih) (Dp.bl i))
theorem ev_str {i : Str} {j} : Ev X A (.Constant (.str i) j pos) (.dat (.str i)) := fun _ _ _ I H r Q q => wx_of pe_str (q _ I H (.refl r.ih) (Dp.str i))
theorem ev_non {j} : Ev X A (.Constant .none j pos) (.dat .none) := fun _ _ _ I H r Q q => wx_of pe_non (q _ I H (.refl r.ih) Dp.non)
theorem ev_name (i : Nat) {x : Str} {d : PyData} (hN : X.N[i]? = some x) (hA : A[i]? = some (.dat d)) (hv : Vis X.env.scope x) (hd : (x == ("__debug__" : Str)) = false := by decide)
    (hcd : (x == ("__classdict__" : Str)) = false := by decide) : Ev X A (.Name x pos) (.dat d) := fun _ _ σ I H r Q q => by
  obtain ⟨v, e, hd'⟩ := r.cell i _ hA
  exact wx_of (pe_var hN hv hd hcd) ⟨v, e, q v I H (.refl r.ih) hd'⟩
/-- a fresh list as data -/
theorem ev_frz {ds : List PyData} (h : Ev X A e (.own (.lst ds))) : Ev X A e (.dat (.list ds)) := fun I0 H0 σ I H r Q q =>
  h I0 H0 σ I H r Q fun v I' H' g hv => by
    obtain ⟨p, o, rfl, n, n', h', hb⟩ := hv
    obtain ⟨vs, rfl, ha⟩ := obAt_lst hb
    have g2 := g.know (o := .lst vs) n n' h'
    have s2 : Same I' (upd I' p (.lst vs)) := fun b u z => by rw [upd_ne (ne_of_none z n')]; exact z
    exact q _ _ _ g2 (.lst (.inl (.inl upd_same)) (dpAll_mono s2 ha))
theorem ev_eq {c c' : C} (h : Ev X A e c) (hc : c = c') : Ev X A e c' := hc ▸ h
/-! read lists and tuples -/
theorem evs_own (i : Nat) {x : Str} {ds : List PyData} (hN : X.N[i]? = some x) (hA : A[i]? = some (.own (.lst ds))) (hv : Vis X.env.scope x) (hd : (x == ("__debug__" : Str)) = false := by decide)
    (hcd : (x == ("__classdict__" : Str)) = false := by decide) : EvS X A (.Name x pos) true ds := fun _ _ σ I H r Q q => by
  obtain ⟨p, o, e, _, _, ho, hb⟩ := r.cell i _ hA
  obtain ⟨vs, rfl, ha⟩ := obAt_lst hb
  exact wx_of (pe_var hN hv hd hcd) ⟨.ref p, e, q p vs I H (.refl r.ih) (.inl (.inl ho)) ha⟩
theorem evs_new {ds : List PyData} (h : Ev X A e (.own (.lst ds))) : EvS X A e true ds := fun I0 H0 σ I H r Q q =>
  h I0 H0 σ I H r Q fun v I' H' g hv => by
    obtain ⟨p, o, rfl, _, _, h', hb⟩ := hv
    obtain ⟨vs, rfl, ha⟩ := obAt_lst hb
    exact q p vs I' H' g (.inl (.inl h')) ha
theorem evs_lst {ds : List PyData} (h : Ev X A e (.dat (.list ds))) : EvS X A e true ds := fun I0 H0 σ I H r Q q =>
  h I0 H0 σ I H r Q fun v I' H' g hv => by
    obtain ⟨p, vs, rfl, hs, ha⟩ := dp_lst hv
    exact q p vs I' H' g (same_l g.ih hs) ha
theorem evs_tup {ds : List PyData} (h : Ev X A e (.dat (.tuple ds))) : EvS X A e false ds := fun I0 H0 σ I H r Q q =>
  h I0 H0 σ I H r Q fun v I' H' g hv => by
    obtain ⟨p, vs, rfl, hs, ha⟩ := dp_tup hv
    exact q p vs I' H' g (same_t g.ih hs) ha
/-! arguments -/
theorem ea_nil : EvA X A [] [] := fun _ _ _ I H r Q q => wa_of pa_nil (q [] I H (.refl r.ih) .nil)
theorem ea_cons {d : PyData} {ds : List PyData} (h1 : Ev X A e (.dat d)) (h2 : EvA X A es ds) (hs : starEach (e :: es) X.env = (false, eval e X.env) :: starEach es X.env := by rfl) : EvA X A (e :: es) (d :: ds) := fun I0 H0 σ I H r Q q =>
  wa_of (pa_cons wx_pe wa_pa hs) (h1 I0 H0 σ I H r _ fun v I1 H1 g1 hv => h2 I0 H0 σ I1 H1 (r.grow g1) _ fun vs I2 H2 g2 hvs => q _ I2 H2 (g1.trans g2) (.cons (dp_mono g2.ii hv) hvs))
/-! operators -/
/-- what an operation on two data gives -/
def Bin (X : Cx) (r : R2) (d1 d2 : PyData) (c : C) : Prop := ∀ I H v w, Same I H → Dp X.K I v d1 → Dp X.K I w d2 → ∀ Q : VK, (∀ u I' H', Grow I H I' H' → VR X.K H I' H' u c → Q u H') → r v w H Q
def Una (X : Cx) (r : V → Hp → VK → Prop) (d1 : PyData) (c : C) : Prop := ∀ I H v, Same I H → Dp X.K I v d1 → ∀ Q : VK, (∀ u I' H', Grow I H I' H' → VR X.K H I' H' u c → Q u H') → r v H Q
theorem bin_run {ta tb : Expr} {r : R2} {d1 d2 : PyData} {c : C} (h1 : Ev X A ta (.dat d1)) (h2 : Ev X A tb (.dat d2)) (hr : Bin X r d1 d2 c) {I0 H0 : Hp} {I : Hp} (rl : Rel X.K I0 H0 A σ I H) (q : ∀ v I' H', Grow I H I' H' → VR X.K H I' H' v c → Q v H') :
    tOp r (Wx X ta) (Wx X tb) σ H Q :=
  h1 I0 H0 σ I H rl _ fun v I1 H1 g1 hv => h2 I0 H0 σ I1 H1 (rl.grow g1) _ fun w I2 H2 g2 hw => hr I2 H2 v w g2.ih (dp_mono g2.ii hv) hw Q fun u I3 H3 g3 hu =>
    q u I3 H3 ((g1.trans g2).trans g3) (hu.back (g1.trans g2).hh)
theorem ev_op {op : Operator} {r : R2} {d1 d2 : PyData} {c : C} (ho : OpR X (binaryOp op) r) (h1 : Ev X A a (.dat d1)) (h2 : Ev X A b (.dat d2)) (hr : Bin X r d1 d2 c) : Ev X A (.BinOp a op b pos) c :=
  fun _ _ _ _ _ rl _ q => wx_of (pe_op ho wx_pe wx_pe) (bin_run h1 h2 hr rl q)
theorem ev_cmp {op : CmpOp} {r : R2} {d1 d2 : PyData} {c : C} (ho : OpR X (compareOp op) r) (h1 : Ev X A a (.dat d1)) (h2 : Ev X A b (.dat d2)) (hr : Bin X r d1 d2 c) (hm : behindInMarks op b = false) : Ev X A (.Compare a [op] [b] pos) c :=
  fun _ _ _ _ _ rl _ q => wx_of (pe_cmpR ho wx_pe wx_pe hm) (bin_run h1 h2 hr rl q)
theorem ev_un {op : UnaryOp} {r : V → Hp → VK → Prop} {d1 : PyData} {c : C} (ho : UnR X (unaryOp op) r) (h1 : Ev X A a (.dat d1)) (hr : Una X r d1 c) : Ev X A (.UnaryOp op a pos) c :=
  fun I0 H0 σ I H rl Q q => wx_of (pe_un ho wx_pe) (h1 I0 H0 σ I H rl _ fun v I1 H1 g1 hv => hr I1 H1 v g1.ih hv Q fun u I2 H2 g2 hu => q u I2 H2 (g1.trans g2) (hu.back g1.hh))
theorem ev_ix {r : R2} {d1 d2 : PyData} {c : C} (ho : IxR X r) (h1 : Ev X A a (.dat d1)) (h2 : Ev X A b (.dat d2)) (hr : Bin X r d1 d2 c) (hs : PlainIx b) : Ev X A (.Subscript a b pos) c :=
  fun _ _ _ _ _ rl _ q => wx_of (pe_ix ho wx_pe wx_pe hs) (bin_run h1 h2 hr rl q)
/-- the results that are plain -/
theorem bin_val {r : R2} {d1 d2 d : PyData} (h : ∀ I H v w, Same I H → Dp X.K I v d1 → Dp X.K I w d2 → ∀ Q : VK, (∀ u, Dp X.K I u d → Q u H) → r v w H Q) : Bin X r d1 d2 (.dat d) :=
  fun I H v w s h1 h2 Q q => h I H v w s h1 h2 Q fun u hu => q u I H (.refl s) hu
theorem bI0 {g : Int → Int → V} {i j : Int} {d : PyData} (hg : ∀ I, Dp X.K I (g i j) d) : Bin X (rI0 g) (.int i) (.int j) (.dat d) := bin_val fun I H v w s h1 h2 Q q => ⟨i, j, dp_int h1, dp_int h2, q _ (hg I)⟩
theorem bI {R : Int → Int → Prop} {g : Int → Int → V} {i j : Int} {d : PyData} (hc : R i j) (hg : ∀ I, Dp X.K I (g i j) d) : Bin X (rI R g) (.int i) (.int j) (.dat d) := bin_val fun I H v w s h1 h2 Q q => ⟨i, j, dp_int h1, dp_int h2, hc, q _ (hg I)⟩
theorem ev_add {i j : Int} (h1 : Ev X A a (.dat (.int i))) (h2 : Ev X A b (.dat (.int j))) : Ev X A (.BinOp a .Add b pos) (.dat (.int (i + j))) := ev_op op_add h1 h2 (bI0 fun _ => .int _)
theorem ev_sub {i j : Int} (h1 : Ev X A a (.dat (.int i))) (h2 : Ev X A b (.dat (.int j))) : Ev X A (.BinOp a .Sub b pos) (.dat (.int (i - j))) := ev_op op_sub h1 h2 (bI0 fun _ => .int _)
theorem ev_mul {i j : Int} (h1 : Ev X A a (.dat (.int i))) (h2 : Ev X A b (.dat (.int j))) (hc : CMul i j) : Ev X A (.BinOp a .Mult b pos) (.dat (.int (i * j))) := ev_op op_mul h1 h2 (bI hc fun _ => .int _)
theorem ev_mod {i j : Int} (h1 : Ev X A a (.dat (.int i))) (h2 : Ev X A b (.dat (.int j))) (hc : 0 < j) : Ev X A (.BinOp a .Mod b pos) (.dat (.int (i % j))) := ev_op op_modN h1 h2 (bI (Int.ne_of_gt hc) fun _ => by
  rw [Int.fmod_eq_emod_of_nonneg _ (Int.le_of_lt hc)]; exact .int _)
theorem ev_div {i j : Int} (h1 : Ev X A a (.dat (.int i))) (h2 : Ev X A b (.dat (.int j))) (hc : 0 < j) (hb : j < 1073741824) : Ev X A (.BinOp a .FloorDiv b pos) (.dat (.int (i / j))) := ev_op op_fdivN h1 h2 (bI ⟨Int.ne_of_gt hc, by omega⟩ fun _ => by
  rw [Int.fdiv_eq_ediv_of_nonneg _ (Int.le_of_lt hc)]; exact .int _)
theorem ev_pow {i j : Int} (h1 : Ev X A a (.dat (.int i))) (h2 : Ev X A b (.dat (.int j))) (hc : CPow i j) : Ev X A (.BinOp a .Pow b pos) (.dat (.int (i ^ j.toNat))) := ev_op op_pow h1 h2 (bI hc fun _ => .int _)
theorem ev_neg {i : Int} (h1 : Ev X A a (.dat (.int i))) : Ev X A (.UnaryOp .USub a pos) (.dat (.int (-i))) := ev_un un_neg h1 fun I H v s h Q q => ⟨i, dp_int h, q _ I H (.refl s) (Dp.int _)⟩
theorem ev_lt {i j : Int} (h1 : Ev X A a (.dat (.int i))) (h2 : Ev X A b (.dat (.int j))) : Ev X A (.Compare a [.Lt] [b] pos) (.dat (.bool (decide (i < j)))) := ev_cmp op_lt h1 h2 (bI0 fun _ => .bl _) (nomark _)
theorem ev_le {i j : Int} (h1 : Ev X A a (.dat (.int i))) (h2 : Ev X A b (.dat (.int j))) : Ev X A (.Compare a [.LtE] [b] pos) (.dat (.bool (decide (i ≤ j)))) := ev_cmp op_le h1 h2 (bI0 fun _ => .bl _) (nomark _)
theorem ev_gt {i j : Int} (h1 : Ev X A a (.dat (.int i))) (h2 : Ev X A b (.dat (.int j))) : Ev X A (.Compare a [.Gt] [b] pos) (.dat (.bool (decide (j < i)))) := ev_cmp op_gt h1 h2 (bI0 fun _ => .bl _) (nomark _)
theorem ev_ge {i j : Int} (h1 : Ev X A a (.dat (.int i))) (h2 : Ev X A b (.dat (.int j))) : Ev X A (.Compare a [.GtE] [b] pos) (.dat (.bool (decide (j ≤ i)))) := ev_cmp op_ge h1 h2 (bI0 fun _ => .bl _) (nomark _)
theorem decV {i j : Int} : decide (V.int i = V.int j) = decide (i = j) := decide_eq_decide.mpr ⟨V.int.inj, fun h => h ▸ rfl⟩
theorem decS {i j : Str} : decide (V.str i = V.str j) = decide (i = j) := decide_eq_decide.mpr ⟨V.str.inj, fun h => h ▸ rfl⟩
theorem ev_eqI {i j : Int} (h1 : Ev X A a (.dat (.int i))) (h2 : Ev X A b (.dat (.int j))) : Ev X A (.Compare a [.Eq] [b] pos) (.dat (.bool (decide (i = j)))) := ev_cmp op_eq h1 h2 (bin_val fun I H v w s h1 h2 Q q => by
  rw [dp_int h1, dp_int h2]; exact ⟨rfl, by rw [decV]; exact q _ (.bl _)⟩) (nomark _)
theorem ev_neI {i j : Int} (h1 : Ev X A a (.dat (.int i))) (h2 : Ev X A b (.dat (.int j))) : Ev X A (.Compare a [.NotEq] [b] pos) (.dat (.bool (!decide (i = j)))) := ev_cmp op_ne h1 h2 (bin_val fun I H v w s h1 h2 Q q => by
  rw [dp_int h1, dp_int h2]; exact ⟨rfl, by rw [decV]; exact q _ (.bl _)⟩) (nomark _)
theorem ev_eqS {i j : Str} (h1 : Ev X A a (.dat (.str i))) (h2 : Ev X A b (.dat (.str j))) : Ev X A (.Compare a [.Eq] [b] pos) (.dat (.bool (decide (i = j)))) := ev_cmp op_eq h1 h2 (bin_val fun I H v w s h1 h2 Q q => by
  rw [dp_str h1, dp_str h2]; exact ⟨rfl, by rw [decS]; exact q _ (.bl _)⟩) (nomark _)
theorem ev_neS {i j : Str} (h1 : Ev X A a (.dat (.str i))) (h2 : Ev X A b (.dat (.str j))) : Ev X A (.Compare a [.NotEq] [b] pos) (.dat (.bool (!decide (i = j)))) := ev_cmp op_ne h1 h2 (bin_val fun I H v w s h1 h2 Q q => by
  rw [dp_str h1, dp_str h2]; exact ⟨rfl, by rw [decS]; exact q _ (.bl _)⟩) (nomark _)
theorem ev_eqD {d1 d2 : PyData} {k : Nat} (hr : Room k X.A) (h1 : Ev X A a (.dat d1)) (h2 : Ev X A b (.dat d2)) (s1 : SeqAt.shaped d1 = true) (s2 : SeqAt.shaped d2 = true) : Ev X A (.Compare a [.Eq] [b] pos) (.dat (.bool (PyData.eqv d1 d2))) :=
  ev_cmp (op_eqD hr.units) h1 h2 (bin_val fun I H v w s h1 h2 Q q => ⟨d1, d2, (dp_mono s h1).kit s1, (dp_mono s h2).kit s2, s1, s2, q _ (.bl _)⟩) (nomark _)
theorem ev_neD {d1 d2 : PyData} {k : Nat} (hr : Room k X.A) (h1 : Ev X A a (.dat d1)) (h2 : Ev X A b (.dat d2)) (s1 : SeqAt.shaped d1 = true) (s2 : SeqAt.shaped d2 = true) : Ev X A (.Compare a [.NotEq] [b] pos) (.dat (.bool (!PyData.eqv d1 d2))) :=
  ev_cmp (op_neD hr.units) h1 h2 (bin_val fun I H v w s h1 h2 Q q => ⟨d1, d2, (dp_mono s h1).kit s1, (dp_mono s h2).kit s2, s1, s2, q _ (.bl _)⟩) (nomark _)
theorem ev_isN {d : PyData} (h1 : Ev X A a (.dat d)) : Ev X A (.Compare a [.Is] [.Constant .none j p] pos) (.dat (.bool (match d with | .none => true | _ => false))) :=
  fun I0 H0 σ I H rl Q q => wx_of (pe_cmp (pc_isN wx_pe) rfl) (h1 I0 H0 σ I H rl _ fun v I1 H1 g1 hv => q _ I1 H1 g1 (by
    have hv : Dp X.K I1 v d := hv
    cases hv <;> exact Dp.bl _))
theorem ev_notN {d : PyData} (h1 : Ev X A a (.dat d)) : Ev X A (.Compare a [.IsNot] [.Constant .none j p] pos) (.dat (.bool (match d with | .none => false | _ => true))) :=
  fun I0 H0 σ I H rl Q q => wx_of (pe_cmp (pc_notN wx_pe) rfl) (h1 I0 H0 σ I H rl _ fun v I1 H1 g1 hv => q _ I1 H1 g1 (by
    have hv : Dp X.K I1 v d := hv
    cases hv <;> exact Dp.bl _))
end
end LR

set_option Elab.async false
set_option linter.all false
set_option maxRecDepth 100000
set_option maxHeartbeats 4000000
/-! The layer LR, part b: sequences, calls, tests, comprehensions. -/
namespace LR
open PySem PySem.Spec PyProof.Rows L2

theorem atI_dp {K : PySem.W.Frag} {H : Hp} {vs : List V} {ds : List PyData} (h : DpAll K H vs ds) {i : Int} {d : PyData} (e : atI ds i = some d) : ∃ v, atI vs i = some v ∧ Dp K H v d := by
  unfold atI at e ⊢
  rw [dpAll_len h]
  cases q : ixN ds.length i with
  | none => rw [q] at e; cases e
  | some j => rw [q] at e; exact dpAll_get h (i := j) e
/-- xs[lo:hi] -/
def cut {α : Type} (xs : List α) (lo hi : Option Int) : List α := (xs.drop (HT.sIx xs.length 0 lo)).take (HT.sIx xs.length xs.length hi - HT.sIx xs.length 0 lo)
theorem dpAll_cut {K : PySem.W.Frag} {H : Hp} {vs : List V} {ds : List PyData} (h : DpAll K H vs ds) (lo hi : Option Int) : DpAll K H (cutV vs lo hi) (cut ds lo hi) := by
  unfold cutV cut
  rw [dpAll_len h]
  exact dpAll_take _ (dpAll_drop _ h)
theorem cut_map {α β : Type} (f : α → β) (xs : List α) (lo hi : Option Int) : cut (xs.map f) lo hi = (cut xs lo hi).map f := by
  unfold cut
  rw [List.length_map, List.map_take, List.map_drop]
theorem cut_to {α : Type} (xs : List α) (k : Nat) : cut xs none (some (k : Int)) = xs.take k := by
  unfold cut
  rw [HT.sIx_none, HT.sIx_nat, List.drop_zero, Nat.sub_zero]
  by_cases h : k ≤ xs.length
  · rw [Nat.min_eq_left h]
  · rw [Nat.min_eq_right (by omega), List.take_of_length_le (Nat.le_refl _), List.take_of_length_le (by omega)]
theorem cut_from {α : Type} (xs : List α) (k : Nat) : cut xs (some (k : Int)) none = xs.drop k := by
  unfold cut
  rw [HT.sIx_none, HT.sIx_nat]
  by_cases h : k ≤ xs.length
  · rw [Nat.min_eq_left h, List.take_of_length_le (by rw [List.length_drop]; omega)]
  · rw [Nat.min_eq_right (by omega), List.drop_of_length_le (Nat.le_refl _), List.drop_of_length_le (by omega)]
    simp
theorem cut_mid {α : Type} (xs : List α) (j k : Nat) (hk : k ≤ xs.length) (hj : j ≤ k) : cut xs (some (j : Int)) (some (k : Int)) = (xs.drop j).take (k - j) := by
  unfold cut
  rw [HT.sIx_nat, HT.sIx_nat, Nat.min_eq_left (show j ≤ xs.length by omega), Nat.min_eq_left hk]
theorem cut_len {α : Type} (xs : List α) (lo hi : Option Int) : (cut xs lo hi).length ≤ xs.length := by
  unfold cut
  rw [List.length_take, List.length_drop]
  omega

section
variable {X : Cx} {e a b : Expr} {es : List Expr} {σ : L2.St} {H : Hp} {Q : VK} {A : List C} {pos p p2 : Pos} {x : Str}

theorem sqk {K : PySem.W.Frag} {H : Hp} {p : Addr} {vs : List V} {k : Bool} (h : if k then SqL K H p vs else SqT K H p vs) : SqL K H p vs ∨ SqT K H p vs := by
  cases k with
  | true => exact .inl h
  | false => exact .inr h
/-- an item, i of any sign -/
theorem ev_at {k : Bool} {ds : List PyData} {i : Int} {d : PyData} (h1 : EvS X A a k ds) (h2 : Ev X A b (.dat (.int i))) (hd : atI ds i = some d) (hs : PlainIx b) : Ev X A (.Subscript a b pos) (.dat d) := fun I0 H0 σ I H rl Q q =>
  wx_of (pe_ix (ix_list.or ix_tup) wx_pe wx_pe hs) (h1 I0 H0 σ I H rl _ fun p vs I1 H1 g1 hk ha => h2 I0 H0 σ I1 H1 (rl.grow g1) _ fun w I2 H2 g2 hw => by
    obtain ⟨v, e1, e2⟩ := atI_dp ha hd
    have hw' : Dp X.K I2 w (.int i) := hw
    have fin := q v I2 H2 (g1.trans g2) (dp_mono g2.ii e2)
    cases k with
    | true => exact .inl ⟨p, vs, i, v, rfl, dp_int hw', same_l g2.hh hk, e1, fin⟩
    | false => exact .inr ⟨p, vs, i, v, rfl, dp_int hw', same_t g2.hh hk, e1, fin⟩)
theorem ev_atS {z : Str} {i : Int} {c : Nat} (h1 : Ev X A a (.dat (.str z))) (h2 : Ev X A b (.dat (.int i))) (hz : z.length ≤ sizeLine) (hd : atI z.cps.toList i = some c) (hs : PlainIx b) : Ev X A (.Subscript a b pos) (.dat (.str ⟨#[c]⟩)) :=
  ev_ix ix_str h1 h2 (bin_val fun I H v w s h1 h2 Q q => ⟨z, i, c, dp_str h1, dp_int h2, hz, hd, q _ (.str _)⟩) hs
/-! displays -/
theorem ev_tup {ds : List PyData} {x1} (h : EvA X A es ds) (hz : ds.length ≤ sizeLine := by decide) : Ev X A (.Tuple es x1 pos) (.dat (.tuple ds)) := fun I0 H0 σ I H rl Q q =>
  wx_of (pe_tup wa_pa) (h I0 H0 σ I H rl _ fun vs I1 H1 g ha => ⟨by rw [dpAll_len ha]; exact hz, fun p hp => by
    have g2 := Grow.new (o := .tup vs) g.ih hp
    exact q _ _ _ (g.trans g2) (.tup upd_same (dpAll_mono g2.ii ha))⟩)
theorem ev_lst {ds : List PyData} (h : EvA X A es ds) (hz : ds.length ≤ sizeLine := by decide) : Ev X A (.List es pos) (.own (.lst ds)) := fun I0 H0 σ I H rl Q q =>
  wx_of (pe_lst wa_pa) (h I0 H0 σ I H rl _ fun vs I1 H1 g ha => ⟨by rw [dpAll_len ha]; exact hz, fun p hp => by
    have g2 := Grow.newH (o := .lst vs) g.ih hp
    exact q _ _ _ (g.trans g2) ⟨p, .lst vs, rfl, g.hh.free hp, g.ih.free hp, upd_same, ha⟩⟩)
/-! t + u, xs + ys -/
theorem ev_catT {ds es : List PyData} (h1 : Ev X A a (.dat (.tuple ds))) (h2 : Ev X A b (.dat (.tuple es))) (hz : ds.length + es.length ≤ sizeLine) : Ev X A (.BinOp a .Add b pos) (.dat (.tuple (ds ++ es))) :=
  ev_op op_catA h1 h2 fun I H v w s h1 h2 Q q => by
    obtain ⟨p, xs, rfl, hx, ha⟩ := dp_tup h1
    obtain ⟨p2, ys, rfl, hy, hb⟩ := dp_tup h2
    have l1 := dpAll_len ha
    have l2 := dpAll_len hb
    refine ⟨p, p2, xs, ys, rfl, rfl, same_t s hx, same_t s hy, by rw [l1, l2]; exact hz, fun e0 => ?_, fun e0 e1 => ?_, fun e0 e1 l hl => ?_⟩
    · subst e0
      cases ha
      exact q _ I H (.refl s) h2
    · subst e1
      cases hb
      exact q _ I H (.refl s) (by rw [List.append_nil]; exact h1)
    · have g2 := Grow.new (o := .tup (xs ++ ys)) s hl
      exact q _ _ _ g2 (.tup upd_same (dpAll_mono g2.ii (dpAll_append ha hb)))
/-- what may be tracked of a list that is read -/
def EvL (X : Cx) (A : List C) (e : Expr) (ds : List PyData) : Prop := ∀ I0 H0 σ I H, Rel X.K I0 H0 A σ I H → ∀ Q : VK,
  (∀ p vs I' H', Grow I H I' H' → H' p = some (.lst vs) → DpAll X.K I' vs ds → Q (.ref p) H') → Wx X e σ H Q
theorem evl_own (i : Nat) {x : Str} {ds : List PyData} (hN : X.N[i]? = some x) (hA : A[i]? = some (.own (.lst ds))) (hv : Vis X.env.scope x) (hd : (x == ("__debug__" : Str)) = false := by decide)
    (hcd : (x == ("__classdict__" : Str)) = false := by decide) : EvL X A (.Name x pos) ds := fun _ _ σ I H r Q q => by
  obtain ⟨p, o, e, _, _, ho, hb⟩ := r.cell i _ hA
  obtain ⟨vs, rfl, ha⟩ := obAt_lst hb
  exact wx_of (pe_var hN hv hd hcd) ⟨.ref p, e, q p vs I H (.refl r.ih) ho ha⟩
theorem evl_new {ds : List PyData} (h : Ev X A e (.own (.lst ds))) : EvL X A e ds := fun I0 H0 σ I H r Q q =>
  h I0 H0 σ I H r Q fun v I' H' g hv => by
    obtain ⟨p, o, rfl, _, _, h', hb⟩ := hv
    obtain ⟨vs, rfl, ha⟩ := obAt_lst hb
    exact q p vs I' H' g h' ha
theorem ev_catL {ds es : List PyData} (h1 : EvL X A a ds) (h2 : EvL X A b es) (hz : ds.length + es.length ≤ sizeLine) : Ev X A (.BinOp a .Add b pos) (.own (.lst (ds ++ es))) := fun I0 H0 σ I H rl Q q =>
  wx_of (pe_op op_cat wx_pe wx_pe) (h1 I0 H0 σ I H rl _ fun p xs I1 H1 g1 hp ha => h2 I0 H0 σ I1 H1 (rl.grow g1) _ fun p2 ys I2 H2 g2 hp2 hb =>
    ⟨p, p2, xs, ys, rfl, rfl, g2.hh _ _ hp, hp2, by rw [dpAll_len ha, dpAll_len hb]; exact hz, fun l hl => by
      have g3 := Grow.newH (o := .lst (xs ++ ys)) g2.ih hl
      exact q _ _ _ ((g1.trans g2).trans g3) ⟨l, _, rfl, (g1.trans g2).hh.free hl, g2.ih.free hl, upd_same, dpAll_append (dpAll_mono g2.ii ha) hb⟩⟩)
theorem dpAll_rep {K : PySem.W.Frag} {H : Hp} {vs : List V} {ds : List PyData} (h : DpAll K H vs ds) : ∀ n : Nat, DpAll K H (List.replicate n vs).flatten (List.replicate n ds).flatten
  | 0 => .nil
  | n + 1 => by
    rw [List.replicate_succ, List.replicate_succ, List.flatten_cons, List.flatten_cons]
    exact dpAll_append h (dpAll_rep h n)
/-! slices -/
def EvO (X : Cx) (A : List C) (e : Option Expr) (o : Option Int) : Prop := match e, o with
  | none, none => True
  | some e, some i => Ev X A e (.dat (.int i))
  | _, _ => False
theorem evo_none : EvO X A none none := True.intro
theorem evo_some {i : Int} (h : Ev X A e (.dat (.int i))) : EvO X A (some e) (some i) := h
def Wo (X : Cx) (e : Option Expr) (σ : L2.St) (H : Hp) (Q : Option Int → Hp → Prop) : Prop := match e with
  | none => Q none H
  | some e => Wx X e σ H fun x H1 => ∃ i, x = .int i ∧ Q (some i) H1
theorem wo_po {e : Option Expr} : PO X e (Wo X e) := by
  cases e with
  | none => exact po_none
  | some e => exact po_some wx_pe
theorem evo_run {e : Option Expr} {o : Option Int} (h : EvO X A e o) {I0 H0 I : Hp} (rl : Rel X.K I0 H0 A σ I H) {Q : Option Int → Hp → Prop} (q : ∀ I' H', Grow I H I' H' → Q o H') : Wo X e σ H Q := by
  cases e with
  | none => cases o with
    | none => exact q I H (.refl rl.ih)
    | some i => exact h.elim
  | some e => cases o with
    | none => exact h.elim
    | some i => exact h I0 H0 σ I H rl _ fun v I1 H1 g hv => ⟨i, dp_int hv, q I1 H1 g⟩
theorem ev_slL {lo hi : Option Expr} {l u : Option Int} {ds : List PyData} (h : EvS X A e true ds) (hl : EvO X A lo l) (hu : EvO X A hi u) : Ev X A (.Subscript e (.Slice lo hi none p2) pos) (.own (.lst (cut ds l u))) := fun I0 H0 σ I H rl Q q =>
  wx_of (pe_slice sl_list wx_pe wo_po wo_po) (h I0 H0 σ I H rl _ fun p vs I1 H1 g1 hk ha => evo_run hl (rl.grow g1) fun I2 H2 g2 => evo_run hu ((rl.grow g1).grow g2) fun I3 H3 g3 =>
    ⟨p, vs, rfl, same_l (g2.trans g3).hh hk, fun r hr => by
      have g := (g1.trans g2).trans g3
      have g4 := Grow.newH (o := .lst (cutV vs l u)) g3.ih hr
      exact q _ _ _ (g.trans g4) ⟨r, _, rfl, g.hh.free hr, g3.ih.free hr, upd_same, dpAll_mono (g2.trans g3).ii (dpAll_cut ha l u)⟩⟩)
theorem ev_slT {lo hi : Option Expr} {l u : Option Int} {ds : List PyData} (h : Ev X A e (.dat (.tuple ds))) (hl : EvO X A lo l) (hu : EvO X A hi u) : Ev X A (.Subscript e (.Slice lo hi none p2) pos) (.dat (.tuple (cut ds l u))) := fun I0 H0 σ I H rl Q q =>
  wx_of (pe_slice sl_tupA wx_pe wo_po wo_po) (h I0 H0 σ I H rl _ fun v I1 H1 g1 hv => evo_run hl (rl.grow g1) fun I2 H2 g2 => evo_run hu ((rl.grow g1).grow g2) fun I3 H3 g3 => by
    have hv := dp_mono (g2.trans g3).ii (show Dp X.K I1 v (.tuple ds) from hv)
    obtain ⟨p, vs, rfl, hk, ha⟩ := dp_tup hv
    have g := (g1.trans g2).trans g3
    refine ⟨p, vs, rfl, same_t g3.ih hk, fun ⟨e1, e2⟩ => ?_, fun _ r hr => ?_⟩
    · refine q _ _ _ g ?_
      have e3 : cut ds l u = ds := by
        unfold cut
        rw [← dpAll_len ha, e1, e2, List.drop_zero, Nat.sub_zero, dpAll_len ha, List.take_length]
      rw [e3]
      exact hv
    · have g4 := Grow.new (o := .tup (cutV vs l u)) g3.ih hr
      exact q _ _ _ (g.trans g4) (.tup upd_same (dpAll_mono g4.ii (dpAll_cut ha l u))))
/-! built-ins -/
theorem ev_len {k : Bool} {ds : List PyData} (hg : Gl X "len") (hm : X.mg "len" = none) (h : EvS X A e k ds) (hs : starEach (e :: []) X.env = (false, eval e X.env) :: starEach [] X.env := by rfl) : Ev X A (.Call (.Name "len" p) [e] [] pos) (.dat (.int ds.length)) := fun I0 H0 σ I H rl Q q =>
  wx_of (pe_callB call_len_seq hg hm PySem.boot_len (pa_cons wx_pe pa_nil hs) (by decide) (by decide) hs rfl) (h I0 H0 σ I H rl _ fun p vs I1 H1 g hk ha => ⟨p, vs, rfl, sqk hk, q _ I1 H1 g (by rw [← dpAll_len ha]; exact Dp.int _)⟩)
theorem ev_lenS {z : Str} (hg : Gl X "len") (hm : X.mg "len" = none) (h : Ev X A e (.dat (.str z))) (hz : z.length ≤ sizeLine) (hs : starEach (e :: []) X.env = (false, eval e X.env) :: starEach [] X.env := by rfl) : Ev X A (.Call (.Name "len" p) [e] [] pos) (.dat (.int z.length)) := fun I0 H0 σ I H rl Q q =>
  wx_of (pe_callB call_len_str hg hm PySem.boot_len (pa_cons wx_pe pa_nil hs) (by decide) (by decide) hs rfl) (h I0 H0 σ I H rl _ fun v I1 H1 g hv => ⟨z, by rw [dp_str hv], hz, q _ I1 H1 g (Dp.int _)⟩)
theorem ev_tuple {ds : List PyData} (hg : Gl X "tuple") (hm : X.mg "tuple" = none) (h : EvS X A e true ds) (hb : bootBuiltins "tuple" = some (.type "tuple") := by decide +kernel) (hs : starEach (e :: []) X.env = (false, eval e X.env) :: starEach [] X.env := by rfl) : Ev X A (.Call (.Name "tuple" p) [e] [] pos) (.dat (.tuple ds)) := fun I0 H0 σ I H rl Q q =>
  wx_of (pe_callTy call_tuple_of hg hm hb (pa_cons wx_pe pa_nil hs) (by decide) (by decide) hs rfl) (h I0 H0 σ I H rl _ fun p vs I1 H1 g hk ha => ⟨p, vs, rfl, .inl ⟨hk, fun l hl => by
    have g2 := Grow.new (o := .tup vs) g.ih hl
    exact q _ _ _ (g.trans g2) (.tup upd_same (dpAll_mono g2.ii ha))⟩⟩)
theorem ev_tupleT {ds : List PyData} (hg : Gl X "tuple") (hm : X.mg "tuple" = none) (h : Ev X A e (.dat (.tuple ds))) (hb : bootBuiltins "tuple" = some (.type "tuple") := by decide +kernel) (hs : starEach (e :: []) X.env = (false, eval e X.env) :: starEach [] X.env := by rfl) : Ev X A (.Call (.Name "tuple" p) [e] [] pos) (.dat (.tuple ds)) := fun I0 H0 σ I H rl Q q =>
  wx_of (pe_callTy call_tuple_of hg hm hb (pa_cons wx_pe pa_nil hs) (by decide) (by decide) hs rfl) (h I0 H0 σ I H rl _ fun v I1 H1 g hv => by
    have hv : Dp X.K I1 v (.tuple ds) := hv
    obtain ⟨p, vs, rfl, hk, ha⟩ := dp_tup hv
    exact ⟨p, vs, rfl, .inr ⟨same_t g.ih hk, q _ I1 H1 g hv⟩⟩)
theorem ev_list {k : Bool} {ds : List PyData} (hg : Gl X "list") (hm : X.mg "list" = none) (h : EvS X A e k ds) (hb : bootBuiltins "list" = some (.type "list") := by decide +kernel) (hs : starEach (e :: []) X.env = (false, eval e X.env) :: starEach [] X.env := by rfl) : Ev X A (.Call (.Name "list" p) [e] [] pos) (.own (.lst ds)) := fun I0 H0 σ I H rl Q q =>
  wx_of (pe_callTy call_list_of hg hm hb (pa_cons wx_pe pa_nil hs) (by decide) (by decide) hs rfl) (h I0 H0 σ I H rl _ fun p vs I1 H1 g hk ha => ⟨p, vs, rfl, sqk hk, fun l hl => by
    have g2 := Grow.newH (o := .lst vs) g.ih hl
    exact q _ _ _ (g.trans g2) ⟨l, _, rfl, g.hh.free hl, g.ih.free hl, upd_same, ha⟩⟩)
theorem ev_intB {k : Bool} (hg : Gl X "int") (hm : X.mg "int" = none) (h : Ev X A e (.dat (.bool k))) (hb : bootBuiltins "int" = some (.type "int") := by decide +kernel) (hs : starEach (e :: []) X.env = (false, eval e X.env) :: starEach [] X.env := by rfl) : Ev X A (.Call (.Name "int" p) [e] [] pos) (.dat (.int (if k then 1 else 0))) := fun I0 H0 σ I H rl Q q =>
  wx_of (pe_callTy call_int1 hg hm hb (pa_cons wx_pe pa_nil hs) (by decide) (by decide) hs rfl) (h I0 H0 σ I H rl _ fun v I1 H1 g hv => .inr ⟨k, by rw [dp_bool hv], q _ I1 H1 g (Dp.int _)⟩)
theorem ev_strI {i : Int} (hg : Gl X "str") (hm : X.mg "str" = none) (h : Ev X A e (.dat (.int i))) (hz : i.natAbs.log2 < 1920) (hb : bootBuiltins "str" = some (.type "str") := by decide +kernel) (hs : starEach (e :: []) X.env = (false, eval e X.env) :: starEach [] X.env := by rfl) : Ev X A (.Call (.Name "str" p) [e] [] pos) (.dat (.str (toString i))) := fun I0 H0 σ I H rl Q q =>
  wx_of (pe_callTy call_str_int hg hm hb (pa_cons wx_pe pa_nil hs) (by decide) (by decide) hs rfl) (h I0 H0 σ I H rl _ fun v I1 H1 g hv => ⟨i, by rw [dp_int hv], hz, q _ I1 H1 g (Dp.str _)⟩)
theorem ev_max2 {i j : Int} {e2 : Expr} (hc : X.calm = true) (hg : Gl X "max") (hm : X.mg "max" = none) (h : EvA X A [e, e2] [.int i, .int j]) (hb : bootBuiltins "max" = some (.builtin "max") := by decide +kernel)
    (hs : starEach (e :: [e2]) X.env = (false, eval e X.env) :: starEach [e2] X.env := by rfl) (hpl : (backTo pos (starEach [e2] X.env)).any (·.1) = false := by rfl) : Ev X A (.Call (.Name "max" p) [e, e2] [] pos) (.dat (.int (max i j))) := fun I0 H0 σ I H rl Q q =>
  wx_of (pe_callB (call_max2 hc) hg hm hb wa_pa (by decide) (by decide) hs hpl) (h I0 H0 σ I H rl _ fun vs I1 H1 g hv => by
    cases hv with
    | cons h1 h2 => cases h2 with
      | cons h2 h3 =>
        cases h3
        exact ⟨i, j, by rw [dp_int h1, dp_int h2], q _ I1 H1 g (by
          have e1 : (if j > i then j else i) = max i j := by omega
          rw [e1]; exact Dp.int _)⟩)
theorem ev_min2 {i j : Int} {e2 : Expr} (hc : X.calm = true) (hg : Gl X "min") (hm : X.mg "min" = none) (h : EvA X A [e, e2] [.int i, .int j]) (hb : bootBuiltins "min" = some (.builtin "min") := by decide +kernel)
    (hs : starEach (e :: [e2]) X.env = (false, eval e X.env) :: starEach [e2] X.env := by rfl) (hpl : (backTo pos (starEach [e2] X.env)).any (·.1) = false := by rfl) : Ev X A (.Call (.Name "min" p) [e, e2] [] pos) (.dat (.int (min i j))) := fun I0 H0 σ I H rl Q q =>
  wx_of (pe_callB (call_min2 hc) hg hm hb wa_pa (by decide) (by decide) hs hpl) (h I0 H0 σ I H rl _ fun vs I1 H1 g hv => by
    cases hv with
    | cons h1 h2 => cases h2 with
      | cons h2 h3 =>
        cases h3
        exact ⟨i, j, by rw [dp_int h1, dp_int h2], q _ I1 H1 g (by
          have e1 : (if j < i then j else i) = min i j := by omega
          rw [e1]; exact Dp.int _)⟩)
theorem ev_sum {ns : List Int} (hc : X.calm = true) (hg : Gl X "sum") (hm : X.mg "sum" = none) (h : EvS X A e true (ns.map PyData.int)) (hb : bootBuiltins "sum" = some (.builtin "sum") := by decide +kernel) (hs : starEach (e :: []) X.env = (false, eval e X.env) :: starEach [] X.env := by rfl) : Ev X A (.Call (.Name "sum" p) [e] [] pos) (.dat (.int ns.sum)) := fun I0 H0 σ I H rl Q q =>
  wx_of (pe_callB (cr_sum hc) hg hm hb (pa_cons wx_pe pa_nil hs) (by decide) (by decide) hs rfl) (h I0 H0 σ I H rl _ fun p vs I1 H1 g hk ha => ⟨p, ns, rfl, by rw [← ints_of ha]; exact hk, q _ I1 H1 g (Dp.int _)⟩)
theorem ev_any {bs : List Bool} (hc : X.calm = true) (hg : Gl X "any") (hm : X.mg "any" = none) (h : EvS X A e true (bs.map PyData.bool)) (hb : bootBuiltins "any" = some (.builtin "any") := by decide +kernel) (hs : starEach (e :: []) X.env = (false, eval e X.env) :: starEach [] X.env := by rfl) : Ev X A (.Call (.Name "any" p) [e] [] pos) (.dat (.bool (bs.any id))) := fun I0 H0 σ I H rl Q q =>
  wx_of (pe_callB (cr_any hc) hg hm hb (pa_cons wx_pe pa_nil hs) (by decide) (by decide) hs rfl) (h I0 H0 σ I H rl _ fun p vs I1 H1 g hk ha => ⟨p, bs, rfl, by rw [← bls_of ha]; exact hk, q _ I1 H1 g (Dp.bl _)⟩)
theorem ev_all {bs : List Bool} (hc : X.calm = true) (hg : Gl X "all") (hm : X.mg "all" = none) (h : EvS X A e true (bs.map PyData.bool)) (hb : bootBuiltins "all" = some (.builtin "all") := by decide +kernel) (hs : starEach (e :: []) X.env = (false, eval e X.env) :: starEach [] X.env := by rfl) : Ev X A (.Call (.Name "all" p) [e] [] pos) (.dat (.bool (bs.all id))) := fun I0 H0 σ I H rl Q q =>
  wx_of (pe_callB (cr_all hc) hg hm hb (pa_cons wx_pe pa_nil hs) (by decide) (by decide) hs rfl) (h I0 H0 σ I H rl _ fun p vs I1 H1 g hk ha => ⟨p, bs, rfl, by rw [← bls_of ha]; exact hk, q _ I1 H1 g (Dp.bl _)⟩)
theorem ev_maxL {ns : List Int} {m : Int} (hc : X.calm = true) (hg : Gl X "max") (hm : X.mg "max" = none) (h : EvS X A e true (ns.map PyData.int)) (h1 : m ∈ ns) (h2 : ∀ y ∈ ns, y ≤ m) (hb : bootBuiltins "max" = some (.builtin "max") := by decide +kernel) (hs : starEach (e :: []) X.env = (false, eval e X.env) :: starEach [] X.env := by rfl) : Ev X A (.Call (.Name "max" p) [e] [] pos) (.dat (.int m)) := fun I0 H0 σ I H rl Q q =>
  wx_of (pe_callB (cr_max hc) hg hm hb (pa_cons wx_pe pa_nil hs) (by decide) (by decide) hs rfl) (h I0 H0 σ I H rl _ fun p vs I1 H1 g hk ha => ⟨p, ns, rfl, by rw [← ints_of ha]; exact hk, List.length_pos_of_mem h1, fun m' h3 h4 => by
    have e1 := h4 m h1
    have e2 := h2 m' h3
    have e3 : m' = m := by omega
    rw [e3]
    exact q _ I1 H1 g (Dp.int _)⟩)
theorem ev_minL {ns : List Int} {m : Int} (hc : X.calm = true) (hg : Gl X "min") (hm : X.mg "min" = none) (h : EvS X A e true (ns.map PyData.int)) (h1 : m ∈ ns) (h2 : ∀ y ∈ ns, m ≤ y) (hb : bootBuiltins "min" = some (.builtin "min") := by decide +kernel) (hs : starEach (e :: []) X.env = (false, eval e X.env) :: starEach [] X.env := by rfl) : Ev X A (.Call (.Name "min" p) [e] [] pos) (.dat (.int m)) := fun I0 H0 σ I H rl Q q =>
  wx_of (pe_callB (cr_min hc) hg hm hb (pa_cons wx_pe pa_nil hs) (by decide) (by decide) hs rfl) (h I0 H0 σ I H rl _ fun p vs I1 H1 g hk ha => ⟨p, ns, rfl, by rw [← ints_of ha]; exact hk, List.length_pos_of_mem h1, fun m' h3 h4 => by
    have e1 := h4 m h1
    have e2 := h2 m' h3
    have e3 : m' = m := by omega
    rw [e3]
    exact q _ I1 H1 g (Dp.int _)⟩)
/-! isinstance of data -/
def tyD : PyData → String
  | .none => "NoneType" | .bool _ => "bool" | .int _ => "int" | .str _ => "str" | .list _ => "list" | .tuple _ => "tuple" | .dict _ => "dict"
theorem tyX_of {K : PySem.W.Frag} {H : Hp} {v : V} {d : PyData} (h : Dp K H v d) : TyX K H v (.type (tyD d)) := by
  cases h with
  | non => exact .base .non
  | bl b => exact .base (.bl b)
  | int i => exact .base (.int i)
  | str x => exact .base (.str x)
  | lst hs ha =>
    rcases hs with (h | ⟨o, h⟩) | ⟨o, its, n, h, c, _⟩
    · exact .base (.lst h)
    · exact .base (.frz h)
    · exact .kList h c
  | tup h ha => exact .base (.tup h)
  | dic h => exact .base (.dK h)
/-- isinstance(x, T), T a built-in class -/
theorem ev_isi {T : String} {d : PyData} {r : Bool} {t : Expr} (hg : Gl X "isinstance") (hm : X.mg "isinstance" = none) (h1 : Ev X A e (.dat d)) (hT : t = .Name (Str.ofString T) p2) (hgT : Gl X (Str.ofString T)) (hmT : X.mg (Str.ofString T) = none)
    (hbT : bootBuiltins (Str.ofString T) = some (.type T)) (hk : kitB (tyD d) T = some r) (hn : Str.ofString T ≠ "__name__" := by decide) (hb : bootBuiltins "isinstance" = some (.builtin "isinstance") := by decide +kernel)
    (hs : starEach (e :: [t]) X.env = (false, eval e X.env) :: starEach [t] X.env := by rfl) (hs2 : starEach [t] X.env = (false, eval t X.env) :: starEach [] X.env := by rfl) (hpl : (backTo pos (starEach [t] X.env)).any (·.1) = false := by rfl) (hdb : (Str.ofString T == ("__debug__" : Str)) = false := by decide) :
    Ev X A (.Call (.Name "isinstance" p) [e, t] [] pos) (.dat (.bool r)) := fun I0 H0 σ I H rl Q q => by
  subst hT
  exact wx_of (pe_callB call_isi hg hm hb (pa_cons wx_pe (pa_cons (pe_bltn (v := .ty T) hgT hmT hbT rfl hn hdb) pa_nil hs2) hs) (by decide) (by decide) hs hpl) (h1 I0 H0 σ I H rl _ fun v I1 H1 g hv => ⟨v, .ty T, .type (tyD d), .type T, r, rfl, .ty T, tyX_of (dp_mono g.ih hv), kit_ty hk, q _ I1 H1 g (Dp.bl _)⟩)
end
end LR

set_option Elab.async false
set_option linter.all false
set_option maxRecDepth 100000
set_option maxHeartbeats 4000000
/-! The layer LR, part c: calls of defs, tests, statements, loops, the rule of a def. -/
namespace LR
open PySem PySem.Spec PyProof.Rows L2

inductive Res where
  | ok (c : C)
  | ex (x : Str)
/-- a promise by data: R of the arguments and the result -/
def Spec (K : PySem.W.Frag) (mg : Str → Option Value) (R : List PyData → Res → Prop) : Sp := fun vs H Q E => ∃ I ds r, Same I H ∧ DpAll K I vs ds ∧ R ds r ∧ match r with
  | .ok c => ∀ v I' H', Grow I H I' H' → VR K H I' H' v c → Q v H'
  | .ex x => ∀ I' H', Grow I H I' H' → ∀ c, mg x = some (.ref c) → E (.ref c) none H'
/-- a def of the text, as callers need it -/
structure Fn (P : Program) (w : World) (K : PySem.W.Frag) (mg : Str → Option Value) (base : Heap) (k : Nat) (x : Str) (ps : List Str) (R : List PyData → Res → Prop) : Prop where
  ex : ∃ f fd, FnOk P w K mg base (L2.CX P w) k f fd ps (Spec K mg R) ∧ mg x = some (.ref f) ∧ PySem.W.keepIn K (.ref f) = true ∧ Binds K fd ps [] ∧ ∃ (oc : Value) (od : Option Addr) (osl : Array (Option Value)), K.lookup f = some ⟨oc, od, .func fd, osl⟩
/-- the def behind it, told by its object -/
theorem Fn.withFd {P : Program} {w : World} {K : PySem.W.Frag} {mg : Str → Option Value} {base : Heap} {k : Nat} {x : Str} {ps : List Str} {R : List PyData → Res → Prop} (F : Fn P w K mg base k x ps R) {f : Addr} {fd : FuncData} {oc : Value} {od : Option Addr} {osl : Array (Option Value)}
    (hm : mg x = some (.ref f)) (hl : K.lookup f = some ⟨oc, od, .func fd, osl⟩) : ∃ f fd', FnOk P w K mg base (L2.CX P w) k f fd' ps (Spec K mg R) ∧ mg x = some (.ref f) ∧ fd' = fd := by
  obtain ⟨f', fd', F', hm', _, _, oc', od', osl', hl'⟩ := F.ex
  have e := hm.symm.trans hm'
  cases e
  have e2 := hl.symm.trans hl'
  cases e2
  exact ⟨f, fd, F', hm, rfl⟩
theorem Fn.imp {P : Program} {w : World} {K : PySem.W.Frag} {mg : Str → Option Value} {base : Heap} {k : Nat} {x : Str} {ps : List Str} {R R' : List PyData → Res → Prop} (F : Fn P w K mg base k x ps R) (h : ∀ ds r, R' ds r → R ds r) : Fn P w K mg base k x ps R' := by
  obtain ⟨f, fd, F, a, b, c⟩ := F.ex
  exact ⟨f, fd, F.imp fun vs H Q E ⟨I, ds, r, s, hd, hr, q⟩ => ⟨I, ds, r, s, hd, h ds r hr, q⟩, a, b, c⟩
theorem Fn.mono {P : Program} {w : World} {K : PySem.W.Frag} {mg : Str → Option Value} {base : Heap} {j k : Nat} {x : Str} {ps : List Str} {R : List PyData → Res → Prop} (F : Fn P w K mg base j x ps R) (h : j ≤ k) : Fn P w K mg base k x ps R := by
  obtain ⟨f, fd, F, a, b, c⟩ := F.ex
  exact ⟨f, fd, F.mono h, a, b, c⟩

section
variable {X : Cx} {e a b : Expr} {es : List Expr} {σ : L2.St} {H : Hp} {Q : VK} {A : List C} {pos p p2 : Pos} {x : Str}

theorem ev_call {k : Nat} {ps : List Str} {R : List PyData → Res → Prop} {ds : List PyData} {c : C} (G : Fn X.prog X.w X.K X.mg X.base k x ps R) (hr : Room k X.A) (hg : Gl X x) (ha : EvA X A (e :: es) ds) (h : R ds (.ok c)) (hdb : (x == ("__debug__" : Str)) = false := by decide)
    (he : starEach (e :: es) X.env = (false, eval e X.env) :: starEach es X.env := by rfl) (hpl : (backTo pos (starEach es X.env)).any (·.1) = false := by rfl) : Ev X A (.Call (.Name x p) (e :: es) [] pos) c := fun I0 H0 σ I H rl Q q => by
  obtain ⟨f, fd, F, hm, hk, hb, _⟩ := G.ex
  exact wx_of (pe_call F hr hg hm hk hb .nil passL wa_pa hdb he hpl) (ha I0 H0 σ I H rl _ fun vs I1 H1 g hv => ⟨I1, ds, .ok c, g.ih, by rw [List.append_nil]; exact hv, h, fun v I2 H2 g2 hv2 => q v I2 H2 (g.trans g2) (hv2.back g.hh)⟩)
/-- the expression raises x -/
def EvX (X : Cx) (A : List C) (e : Expr) (x : Str) : Prop := ∀ I0 H0 σ I H, Rel X.K I0 H0 A σ I H → ∀ W : WX, Takes X W → (∀ I' H', Grow I H I' H' → ∀ c, X.mg x = some (.ref c) → W (.ref c) none σ H') → ∀ Q : VK, Wx X e σ H Q
theorem evx_call {k : Nat} {ps : List Str} {R : List PyData → Res → Prop} {ds : List PyData} {y : Str} (G : Fn X.prog X.w X.K X.mg X.base k x ps R) (hr : Room k X.A) (hg : Gl X x) (ha : EvA X A (e :: es) ds) (h : R ds (.ex y)) (hdb : (x == ("__debug__" : Str)) = false := by decide)
    (he : starEach (e :: es) X.env = (false, eval e X.env) :: starEach es X.env := by rfl) (hpl : (backTo pos (starEach es X.env)).any (·.1) = false := by rfl) : EvX X A (.Call (.Name x p) (e :: es) [] pos) y := fun I0 H0 σ I H rl W tk q Q => by
  obtain ⟨f, fd, F, hm, hk, hb, _⟩ := G.ex
  exact wx_of (pe_callS F hr hg hm hk hb (fun σ => passAt tk σ) wa_pa hdb he hpl) (ha I0 H0 σ I H rl _ fun vs I1 H1 g hv => ⟨I1, ds, .ex y, g.ih, hv, h, fun I2 H2 g2 c hc => q I2 H2 (g.trans g2) c hc⟩)
/-! tests -/
theorem et_ev {v : Bool} (h : Ev X A e (.dat (.bool v))) (he : ∀ whole, isTrue e X.env whole = (do let v ← whole; standAt e.pos; holding [v] (truthy v)) := by intro _; rfl) : Et X A e v := fun I0 H0 σ I H rl Q q =>
  wt_of (pt_val wx_pe he) (h I0 H0 σ I H rl _ fun u I1 H1 g hv => ⟨v, dp_bool hv, q I1 H1 g⟩)
/-- a list, a tuple by its truth -/
theorem et_seq {k : Bool} {ds : List PyData} (h : EvS X A e k ds) (he : ∀ whole, isTrue e X.env whole = (do let v ← whole; standAt e.pos; holding [v] (truthy v)) := by intro _; rfl) : Et X A e (!ds.isEmpty) := fun I0 H0 σ I H rl Q q =>
  wt_of (pt_truth wx_pe he) (h I0 H0 σ I H rl _ fun p vs I1 H1 g hk ha => ⟨!ds.isEmpty, by
    have e1 : vs.isEmpty = ds.isEmpty := by cases ha <;> rfl
    rw [← e1]
    cases k with
    | true => exact .inl ⟨vs, hk, rfl⟩
    | false => exact .inr (.inl ⟨vs, hk, rfl⟩), q I1 H1 g⟩)
theorem et_not {v : Bool} (h : Et X A a v) : Et X A (.UnaryOp .Not a pos) (!v) := fun I0 H0 σ I H rl Q q => wt_of (pt_not wt_pe) (h I0 H0 σ I H rl _ q)
theorem ew_et {v : Bool} (h : Ew X A e v) : Et X A e v := fun I0 H0 σ I H rl Q q pins s I => (h I0 H0 σ _ H rl Q q) _ pins s I
theorem ew_and1 {v : Bool} (h : Et X A a v) : Ew X A (.BoolOp .And [a] pos) v := fun I0 H0 σ I H rl Q q => ww_of (pw_and1 wt_pe) (h I0 H0 σ I H rl _ q)
theorem ew_or1 {v : Bool} (h : Et X A a v) : Ew X A (.BoolOp .Or [a] pos) v := fun I0 H0 σ I H rl Q q => ww_of (pw_or1 wt_pe) (h I0 H0 σ I H rl _ q)
theorem ew_and {v u : Bool} (h : Et X A a v) (h2 : v = true → Ew X A (.BoolOp .And (b :: es) pos) u) : Ew X A (.BoolOp .And (a :: b :: es) pos) (v && u) := fun I0 H0 σ I H rl Q q =>
  ww_of (pw_and wt_pe ww_pw) (h I0 H0 σ I H rl _ fun I1 H1 g => by
    cases v with
    | true => exact iteT (h2 rfl I0 H0 σ I1 H1 (rl.grow g) Q fun I2 H2 g2 => q I2 H2 (g.trans g2))
    | false => exact iteF (q I1 H1 g))
theorem ew_or {v u : Bool} (h : Et X A a v) (h2 : v = false → Ew X A (.BoolOp .Or (b :: es) pos) u) : Ew X A (.BoolOp .Or (a :: b :: es) pos) (v || u) := fun I0 H0 σ I H rl Q q =>
  ww_of (pw_or wt_pe ww_pw) (h I0 H0 σ I H rl _ fun I1 H1 g => by
    cases v with
    | true => exact iteT (q I1 H1 g)
    | false => exact iteF (h2 rfl I0 H0 σ I1 H1 (rl.grow g) Q fun I2 H2 g2 => q I2 H2 (g.trans g2)))
/-! and, or, not as values -/
theorem ev_not {v : Bool} (h : Ev X A a (.dat (.bool v))) : Ev X A (.UnaryOp .Not a pos) (.dat (.bool (!v))) := fun I0 H0 σ I H rl Q q =>
  wx_of (pe_not wx_pe) (h I0 H0 σ I H rl _ fun u I1 H1 g hv => ⟨v, dp_bool hv, q _ I1 H1 g (Dp.bl _)⟩)
theorem ev_one {op : BoolOp} {c : C} (h : Ev X A a c) : Ev X A (.BoolOp op [a] pos) c := by
  cases op with
  | And => exact fun I0 H0 σ I H rl Q q => wx_of (pe_one wx_pe) (h I0 H0 σ I H rl Q q)
  | Or => exact fun I0 H0 σ I H rl Q q => wx_of (pe_one wx_pe) (h I0 H0 σ I H rl Q q)
theorem ev_and {v u : Bool} (h : Ev X A a (.dat (.bool v))) (h2 : v = true → Ev X A (.BoolOp .And (b :: es) pos) (.dat (.bool u))) : Ev X A (.BoolOp .And (a :: b :: es) pos) (.dat (.bool (v && u))) := fun I0 H0 σ I H rl Q q =>
  wx_of (pe_and wx_pe wx_pe) (h I0 H0 σ I H rl _ fun w I1 H1 g hv => ⟨v, dp_bool hv, by
    cases v with
    | true => exact iteT (h2 rfl I0 H0 σ I1 H1 (rl.grow g) Q fun y I2 H2 g2 hy => q y I2 H2 (g.trans g2) hy)
    | false => exact iteF (q _ I1 H1 g (Dp.bl false))⟩)
theorem ev_or {v u : Bool} (h : Ev X A a (.dat (.bool v))) (h2 : v = false → Ev X A (.BoolOp .Or (b :: es) pos) (.dat (.bool u))) : Ev X A (.BoolOp .Or (a :: b :: es) pos) (.dat (.bool (v || u))) := fun I0 H0 σ I H rl Q q =>
  wx_of (pe_or wx_pe wx_pe) (h I0 H0 σ I H rl _ fun w I1 H1 g hv => ⟨v, dp_bool hv, by
    cases v with
    | true => exact iteT (q _ I1 H1 g (Dp.bl true))
    | false => exact iteF (h2 rfl I0 H0 σ I1 H1 (rl.grow g) Q fun y I2 H2 g2 hy => q y I2 H2 (g.trans g2) hy)⟩)

/-! ### what is walked -/
def Walks (K : PySem.W.Frag) (J : It) (I1 : Hp) (src : List PyData) : Prop :=
  (∀ (i : Nat) (d : PyData), src[i]? = some d → ∀ I2 H2, Same I1 I2 → Same I2 H2 → J.go i H2 ∧ ∀ x H3, J.yld i H2 x H3 → ∃ I3, Grow I2 H2 I3 H3 ∧ Dp K I3 x d) ∧ ∀ I2 H2, Same I1 I2 → Same I2 H2 → J.stop src.length H2
def EvI (X : Cx) (A : List C) (tg e : Expr) (src : List PyData) : Prop := ∃ wi, PI X tg e wi ∧ ∀ I0 H0 σ I H, Rel X.K I0 H0 A σ I H → ∀ R : It → Hp → Prop, (∀ J I' H', Grow I H I' H' → Walks X.K J I' src → R J H') → wi σ H R
theorem walks_list {K : PySem.W.Frag} {I1 : Hp} {a : Addr} {vs : List V} {src : List PyData} (hs : SqL K I1 a vs) (ha : DpAll K I1 vs src) : Walks K (Itl K a) I1 src := by
  refine ⟨fun i d e I2 H2 s1 s2 => ?_, fun I2 H2 s1 s2 => ⟨vs, same_l (s1.trans s2) hs, Nat.le_of_eq (dpAll_len ha)⟩⟩
  obtain ⟨v, e1, e2⟩ := dpAll_get ha e
  refine ⟨⟨vs, v, same_l (s1.trans s2) hs, e1⟩, fun x H3 ⟨e3, f⟩ => ?_⟩
  subst e3
  have e4 : x = v := Option.some.inj ((f _ (same_l (s1.trans s2) hs)).symm.trans e1)
  subst e4
  exact ⟨I2, .refl s2, dp_mono s1 e2⟩
theorem walks_tup {K : PySem.W.Frag} {I1 : Hp} {a : Addr} {vs : List V} {src : List PyData} (hs : SqT K I1 a vs) (ha : DpAll K I1 vs src) : Walks K (Itt K a) I1 src := by
  refine ⟨fun i d e I2 H2 s1 s2 => ?_, fun I2 H2 s1 s2 => ⟨vs, same_t (s1.trans s2) hs, Nat.le_of_eq (dpAll_len ha)⟩⟩
  obtain ⟨v, e1, e2⟩ := dpAll_get ha e
  refine ⟨⟨vs, v, same_t (s1.trans s2) hs, e1⟩, fun x H3 ⟨e3, f⟩ => ?_⟩
  subst e3
  have e4 : x = v := Option.some.inj ((f _ (same_t (s1.trans s2) hs)).symm.trans e1)
  subst e4
  exact ⟨I2, .refl s2, dp_mono s1 e2⟩
theorem walks_rng {K : PySem.W.Frag} {I1 : Hp} {lo : Int} {n : Nat} : Walks K (Itr lo n) I1 ((List.range n).map fun i : Nat => .int (lo + i)) := by
  refine ⟨fun i d e I2 H2 s1 s2 => ?_, fun I2 H2 s1 s2 => by show n ≤ _; simp⟩
  rw [List.getElem?_map] at e
  by_cases hi : i < n
  · rw [List.getElem?_range hi] at e
    refine ⟨hi, fun x H3 ⟨e3, f⟩ => ?_⟩
    subst e3 f
    simp at e
    subst e
    exact ⟨I2, .refl s2, .int _⟩
  · rw [List.getElem?_eq_none (by simpa using hi)] at e
    cases e
theorem ei_list {tg : Expr} {src : List PyData} (h : Ev X A e (.dat (.list src))) : EvI X A tg e src := ⟨_, pi_list wx_pe, fun I0 H0 σ I H rl R q => h I0 H0 σ I H rl _ fun v I1 H1 g hv => by
  obtain ⟨a, vs, rfl, hs, ha⟩ := dp_lst (show Dp X.K I1 v (.list src) from hv)
  exact ⟨a, rfl, ⟨vs, same_l g.ih hs⟩, q _ I1 H1 g (walks_list hs ha)⟩⟩
theorem ei_tup {tg : Expr} {src : List PyData} (h : Ev X A e (.dat (.tuple src))) : EvI X A tg e src := ⟨_, pi_tup wx_pe, fun I0 H0 σ I H rl R q => h I0 H0 σ I H rl _ fun v I1 H1 g hv => by
  obtain ⟨a, vs, rfl, hs, ha⟩ := dp_tup (show Dp X.K I1 v (.tuple src) from hv)
  exact ⟨a, rfl, ⟨vs, same_t g.ih hs⟩, q _ I1 H1 g (walks_tup hs ha)⟩⟩
theorem ei_range {tg : Expr} {n : Int} (hg : Gl X "range") (hm : X.mg "range" = none) (h : Ev X A a (.dat (.int n))) (h1 : -1000000 ≤ n) (h2 : n ≤ 1000000) (hs : starEach (a :: []) X.env = (false, eval a X.env) :: starEach [] X.env := by rfl) :
    EvI X A tg (.Call (.Name "range" p) [a] [] pos) ((List.range n.toNat).map fun i : Nat => .int (i : Int)) := ⟨_, pi_range1 hg hm (pa_cons wx_pe pa_nil hs) hs, fun I0 H0 σ I H rl R q => h I0 H0 σ I H rl _ fun v I1 H1 g hv => by
  refine ⟨n, by rw [dp_int hv], by omega, by omega, q _ I1 H1 g ?_⟩
  have w := walks_rng (K := X.K) (I1 := I1) (lo := 0) (n := n.toNat)
  simp only [Int.zero_add] at w
  exact w⟩
theorem ei_range2 {tg : Expr} {lo hi : Int} (hg : Gl X "range") (hm : X.mg "range" = none) (h : EvA X A [a, b] [.int lo, .int hi]) (h1 : -1000000 ≤ lo) (h2 : lo ≤ 1000000) (h3 : -1000000 ≤ hi) (h4 : hi ≤ 1000000) (hs : starEach [a, b] X.env = [(false, eval a X.env), (false, eval b X.env)] := by rfl) (hs2 : starEach [b] X.env = [(false, eval b X.env)] := by rfl) :
    EvI X A tg (.Call (.Name "range" p) [a, b] [] pos) ((List.range (hi - lo).toNat).map fun i : Nat => .int (lo + i)) := ⟨_, pi_range2 hg hm wa_pa hs hs2, fun I0 H0 σ I H rl R q => h I0 H0 σ I H rl _ fun vs I1 H1 g hv => by
  cases hv with
  | cons a1 a2 => cases a2 with
    | cons a2 a3 =>
      cases a3
      exact ⟨lo, hi, by rw [dp_int a1, dp_int a2], ⟨by omega, by omega, by omega, by omega⟩, q _ I1 H1 g walks_rng⟩⟩

/-! ### targets -/
theorem rel_set {K : PySem.W.Frag} {I0 H0 I H : Hp} {A : List C} {σ : L2.St} (r : Rel K I0 H0 A σ I H) {j : Nat} {v : V} {d : PyData} (hd : Dp K I v d) (hj : j < A.length) : Rel K I0 H0 (A.set j (.dat d)) (σ.set j (some v)) I H where
  gr := r.gr
  len := by rw [List.length_set, List.length_set]; exact r.len
  cell := fun i c h => by
    by_cases hi : j = i
    · subst hi
      rw [List.getElem?_set_self hj] at h
      cases h
      exact ⟨v, List.getElem?_set_self (by rw [r.len]; exact hj), hd⟩
    · rw [List.getElem?_set_ne hi] at h
      have q := r.cell i c h
      rw [List.getElem?_set_ne hi]
      exact q
  apart := fun i i' p ne o1 o2 h => by
    have ji : j ≠ i := fun e => by subst e; rw [List.getElem?_set_self hj] at o1; exact o1
    have ji' : j ≠ i' := fun e => by subst e; rw [List.getElem?_set_self hj] at o2; exact o2
    rw [List.getElem?_set_ne ji] at o1 h
    rw [List.getElem?_set_ne ji'] at o2 ⊢
    exact r.apart i i' p ne o1 o2 h
theorem rel_un {K : PySem.W.Frag} {I0 H0 I H : Hp} {A : List C} {σ : L2.St} (r : Rel K I0 H0 A σ I H) {j : Nat} {x : Option V} : Rel K I0 H0 (A.set j .un) (σ.set j x) I H where
  gr := r.gr
  len := by rw [List.length_set, List.length_set]; exact r.len
  cell := fun i c h => by
    by_cases hi : j = i
    · subst hi
      by_cases hj : j < A.length
      · rw [List.getElem?_set_self hj] at h
        cases h
        trivial
      · rw [List.getElem?_eq_none (by simpa using hj)] at h
        cases h
    · rw [List.getElem?_set_ne hi] at h
      have q := r.cell i c h
      rw [List.getElem?_set_ne hi]
      exact q
  apart := fun i i' p ne o1 o2 h => by
    have key : ∀ i, isOwn (A.set j .un)[i]? → j ≠ i := fun i o e => by
      subst e
      by_cases hj : j < A.length
      · rw [List.getElem?_set_self hj] at o; exact o
      · rw [List.getElem?_eq_none (by simpa using hj)] at o; exact o
    have ji := key i o1
    have ji' := key i' o2
    rw [List.getElem?_set_ne ji] at o1 h
    rw [List.getElem?_set_ne ji'] at o2 ⊢
    exact r.apart i i' p ne o1 o2 h
/-- a new object of the def's own to name j -/
theorem rel_own {K : PySem.W.Frag} {I0 H0 I H Hs : Hp} {A : List C} {σ : L2.St} (r : Rel K I0 H0 A σ I H) {j : Nat} {p : Addr} {o : HO} {b : Ob} (hj : j < A.length) (n0 : H0 p = none) (n : I p = none) (ho : H p = some o) (hb : ObAt K I o b)
    (far : ∀ i : Nat, isOwn A[i]? → σ[i]? ≠ some (some (.ref p))) : Rel K I0 H0 (A.set j (.own b)) (σ.set j (some (.ref p))) I H where
  gr := r.gr
  len := by rw [List.length_set, List.length_set]; exact r.len
  cell := fun i c h => by
    by_cases hi : j = i
    · subst hi
      rw [List.getElem?_set_self hj] at h
      cases h
      exact ⟨p, o, List.getElem?_set_self (by rw [r.len]; exact hj), n0, n, ho, hb⟩
    · rw [List.getElem?_set_ne hi] at h
      have q := r.cell i c h
      rw [List.getElem?_set_ne hi]
      exact q
  apart := fun i i' q ne o1 o2 h => by
    by_cases ji : j = i
    · subst ji
      rw [List.getElem?_set_self (by rw [r.len]; exact hj)] at h
      cases h
      rw [List.getElem?_set_ne ne] at o2 ⊢
      exact far i' o2
    · by_cases ji' : j = i'
      · subst ji'
        rw [List.getElem?_set_self (by rw [r.len]; exact hj)]
        rw [List.getElem?_set_ne ji] at o1 h
        intro z
        have z' := Option.some.inj (Option.some.inj z)
        injection z' with z'
        subst z'
        exact far i o1 h
      · rw [List.getElem?_set_ne ji] at o1 h
        rw [List.getElem?_set_ne ji'] at o2 ⊢
        exact r.apart i i' q ne o1 o2 h
theorem Rel.far {K : PySem.W.Frag} {I0 H0 I H : Hp} {A : List C} {σ : L2.St} (r : Rel K I0 H0 A σ I H) {p : Addr} (n : H p = none) : ∀ i : Nat, isOwn A[i]? → σ[i]? ≠ some (some (.ref p)) := fun i o e => by
  cases q : A[i]? with
  | none => rw [q] at o; exact o
  | some c =>
    rw [q] at o
    cases c with
    | own b =>
      obtain ⟨p', o', e', _, _, ho, _⟩ := r.cell i _ q
      rw [e'] at e
      have z := Option.some.inj (Option.some.inj e)
      injection z with z
      subst z
      rw [n] at ho
      cases ho
    | un => exact o
    | dat d => exact o
    | rf a => exact o
    | tpo ds es => exact o
    | kn a d => exact o
/-- a reference to name j -/
theorem rel_rf {K : PySem.W.Frag} {I0 H0 I H : Hp} {A : List C} {σ : L2.St} (r : Rel K I0 H0 A σ I H) {j : Nat} {a : Addr} (hj : j < A.length) : Rel K I0 H0 (A.set j (.rf a)) (σ.set j (some (.ref a))) I H where
  gr := r.gr
  len := by rw [List.length_set, List.length_set]; exact r.len
  cell := fun i c h => by
    by_cases hi : j = i
    · subst hi
      rw [List.getElem?_set_self hj] at h
      cases h
      exact List.getElem?_set_self (by rw [r.len]; exact hj)
    · rw [List.getElem?_set_ne hi] at h
      have q := r.cell i c h
      rw [List.getElem?_set_ne hi]
      exact q
  apart := fun i i' p ne o1 o2 h => by
    have ji : j ≠ i := fun e => by subst e; rw [List.getElem?_set_self hj] at o1; exact o1
    have ji' : j ≠ i' := fun e => by subst e; rw [List.getElem?_set_self hj] at o2; exact o2
    rw [List.getElem?_set_ne ji] at o1 h
    rw [List.getElem?_set_ne ji'] at o2 ⊢
    exact r.apart i i' p ne o1 o2 h
theorem rel_kn {K : PySem.W.Frag} {I0 H0 I H : Hp} {A : List C} {σ : L2.St} (r : Rel K I0 H0 A σ I H) {j : Nat} {a : Addr} {d : PyData} (hd : Dp K I (.ref a) d) (hj : j < A.length) : Rel K I0 H0 (A.set j (.kn a d)) (σ.set j (some (.ref a))) I H where
  gr := r.gr
  len := by rw [List.length_set, List.length_set]; exact r.len
  cell := fun i c h => by
    by_cases hi : j = i
    · subst hi
      rw [List.getElem?_set_self hj] at h
      cases h
      exact ⟨List.getElem?_set_self (by rw [r.len]; exact hj), hd⟩
    · rw [List.getElem?_set_ne hi] at h
      have q := r.cell i c h
      rw [List.getElem?_set_ne hi]
      exact q
  apart := fun i i' p ne o1 o2 h => by
    have ji : j ≠ i := fun e => by subst e; rw [List.getElem?_set_self hj] at o1; exact o1
    have ji' : j ≠ i' := fun e => by subst e; rw [List.getElem?_set_self hj] at o2; exact o2
    rw [List.getElem?_set_ne ji] at o1 h
    rw [List.getElem?_set_ne ji'] at o2 ⊢
    exact r.apart i i' p ne o1 o2 h
theorem rel_tpo {K : PySem.W.Frag} {I0 H0 I H : Hp} {A : List C} {σ : L2.St} (r : Rel K I0 H0 A σ I H) {j : Nat} {ds es : List PyData} {x : Option V} (hj : j < A.length) : Rel K I0 H0 (A.set j (.tpo ds es)) (σ.set j x) I H where
  gr := r.gr
  len := by rw [List.length_set, List.length_set]; exact r.len
  cell := fun i c h => by
    by_cases hi : j = i
    · subst hi
      rw [List.getElem?_set_self hj] at h
      cases h
      trivial
    · rw [List.getElem?_set_ne hi] at h
      have q := r.cell i c h
      rw [List.getElem?_set_ne hi]
      exact q
  apart := fun i i' p ne o1 o2 h => by
    have ji : j ≠ i := fun e => by subst e; rw [List.getElem?_set_self hj] at o1; exact o1
    have ji' : j ≠ i' := fun e => by subst e; rw [List.getElem?_set_self hj] at o2; exact o2
    rw [List.getElem?_set_ne ji] at o1 h
    rw [List.getElem?_set_ne ji'] at o2 ⊢
    exact r.apart i i' p ne o1 o2 h
/-- a value to name j -/
theorem rel_put {K : PySem.W.Frag} {I0 H0 I H I' H' : Hp} {A : List C} {σ : L2.St} (r : Rel K I0 H0 A σ I H) (g : Grow I H I' H') {j : Nat} {v : V} {c : C} (hv : VR K H I' H' v c) (hj : j < A.length) : Rel K I0 H0 (A.set j c) (σ.set j (some v)) I' H' := by
  have r' := r.grow g
  cases c with
  | un => exact rel_un r'
  | dat d => exact rel_set r' hv hj
  | own b =>
    obtain ⟨p, o, rfl, n, n', ho, hb⟩ := hv
    exact rel_own (Hs := H) r' hj (r.gr.hh.free n) n' ho hb (r.far n)
  | rf a =>
    rw [show v = .ref a from hv]
    exact rel_rf r' hj
  | tpo ds es => exact rel_tpo r' hj
  | kn a d =>
    obtain ⟨rfl, hd⟩ := (show v = .ref a ∧ Dp K I' v d from hv)
    exact rel_kn r' hd hj

/-! ### statements -/
inductive Out where
  | nx (A : List C)
  | rt (c : C)
  | ex (x : Str) (A : List C)
  | bk (A : List C)
def Fin (X : Cx) (I0 H0 I : Hp) (D : Ends) : Out → Prop
  | .nx A => ∀ σ' I' H', Same I I' → Rel X.K I0 H0 A σ' I' H' → D.nx σ' H'
  | .bk A => ∀ σ' I' H', Same I I' → Rel X.K I0 H0 A σ' I' H' → D.bk σ' H'
  | .rt c => ∀ v I' H', Same I I' → Grow I0 H0 I' H' → VR X.K H0 I' H' v c → D.rt v H'
  | .ex x A => ∃ W : WX, Takes X W ∧ ∀ σ' I' H', Same I I' → Rel X.K I0 H0 A σ' I' H' → ∀ c, X.mg x = some (.ref c) → W (.ref c) none σ' H'
def S1 (X : Cx) (A : List C) (st : Stmt) (o : Out) : Prop := ∀ I0 H0 σ I H, Rel X.K I0 H0 A σ I H → ∀ D : Ends, Fin X I0 H0 I D o → Ws X st D σ H
def Sm (X : Cx) (A : List C) (st : List Stmt) (o : Out) : Prop := ∀ I0 H0 σ I H, Rel X.K I0 H0 A σ I H → ∀ D : Ends, Fin X I0 H0 I D o → Wss X st D σ H
theorem Fin.same {I0 H0 I I1 : Hp} {D : Ends} {o : Out} (s : Same I I1) (f : Fin X I0 H0 I D o) : Fin X I0 H0 I1 D o := by
  cases o with
  | nx A => exact fun σ' I' H' s' r => f σ' I' H' (s.trans s') r
  | bk A => exact fun σ' I' H' s' r => f σ' I' H' (s.trans s') r
  | rt c => exact fun v I' H' s' g h => f v I' H' (s.trans s') g h
  | ex x A =>
    obtain ⟨W, tk, f⟩ := f
    exact ⟨W, tk, fun σ' I' H' s' r => f σ' I' H' (s.trans s') r⟩
/-- ends that agree where o looks -/
theorem Fin.nxD {I0 H0 I : Hp} {D : Ends} {o : Out} {n : L2.St → Hp → Prop} (ho : ∀ A, o ≠ .nx A) (f : Fin X I0 H0 I D o) : Fin X I0 H0 I { D with nx := n } o := by
  cases o with
  | nx A => exact absurd rfl (ho A)
  | bk A => exact f
  | rt c => exact f
  | ex x A => exact f
def Out.isNx : Out → Bool
  | .nx _ => true
  | _ => false
theorem sm_nil : Sm X A [] (.nx A) := fun I0 H0 σ I H rl D f => wss_of pss_nil (f σ I H (Same.refl _) rl)
theorem sm_cons {st : Stmt} {r : List Stmt} {A1 : List C} {o : Out} (h1 : S1 X A st (.nx A1)) (h2 : Sm X A1 r o) : Sm X A (st :: r) o := fun I0 H0 σ I H rl D f =>
  wss_of (pss_cons ws_ps wss_pss) (h1 I0 H0 σ I H rl _ fun σ' I' H' s rl' => h2 I0 H0 σ' I' H' rl' D (f.same s))
theorem sm_end {st : Stmt} {r : List Stmt} {o : Out} (h1 : S1 X A st o) (ho : o.isNx = false := by rfl) : Sm X A (st :: r) o := fun I0 H0 σ I H rl D f =>
  wss_of (pss_cons ws_ps wss_pss) (h1 I0 H0 σ I H rl _ (f.nxD fun A e => by rw [e] at ho; cases ho))
theorem sm_one {st : Stmt} {o : Out} (h1 : S1 X A st o) : Sm X A [st] o := fun I0 H0 σ I H rl D f => wss_of (pss_one ws_ps) (h1 I0 H0 σ I H rl D f)
/-- less is known behind -/
def LeC (c c' : C) : Prop := c' = .un ∨ c = c'
def LeA (A A' : List C) : Prop := A.length = A'.length ∧ ∀ (i : Nat) (c c' : C), A[i]? = some c → A'[i]? = some c' → LeC c c'
theorem LeA.rel {K : PySem.W.Frag} {I0 H0 I H : Hp} {A A' : List C} {σ : L2.St} (l : LeA A A') (r : Rel K I0 H0 A σ I H) : Rel K I0 H0 A' σ I H where
  gr := r.gr
  len := by rw [r.len, l.1]
  cell := fun i c' h => by
    have hi : i < A'.length := by
      by_cases hi : i < A'.length
      · exact hi
      · rw [List.getElem?_eq_none (by omega)] at h; cases h
    have hA : A[i]? = some (A[i]'(by rw [l.1]; exact hi)) := List.getElem?_eq_getElem _
    rcases l.2 i _ c' hA h with z | z
    · subst z; trivial
    · rw [← z]; exact r.cell i _ hA
  apart := fun i j p ne o1 o2 h => by
    have key : ∀ i : Nat, isOwn A'[i]? → isOwn A[i]? := fun i o => by
      have hi : i < A'.length := by
        by_cases hi : i < A'.length
        · exact hi
        · rw [List.getElem?_eq_none (by omega)] at o; exact o.elim
      have hA : A[i]? = some (A[i]'(by rw [l.1]; exact hi)) := List.getElem?_eq_getElem _
      have hA' : A'[i]? = some A'[i] := List.getElem?_eq_getElem _
      rcases l.2 i _ _ hA hA' with z | z
      · rw [hA', z] at o; exact o.elim
      · rw [hA, z, ← hA']; exact o
    exact r.apart i j p ne (key i o1) (key j o2) h
theorem LeA.refl : LeA A A := ⟨rfl, fun i c c' h h' => .inr (Option.some.inj (h.symm.trans h'))⟩
theorem LeA.nil : LeA [] [] := LeA.refl
theorem LeA.cons {c c' : C} {A A' : List C} (h : LeC c c') (t : LeA A A') : LeA (c :: A) (c' :: A') := ⟨by rw [List.length_cons, List.length_cons, t.1], fun i d d' h1 h2 => by
  cases i with
  | zero => simp at h1 h2; subst h1 h2; exact h
  | succ i => exact t.2 i d d' (by simpa using h1) (by simpa using h2)⟩
theorem LeC.un {c : C} : LeC c .un := .inl rfl
theorem LeC.refl {c : C} : LeC c c := .inr rfl
theorem LeC.eq {c c' : C} (h : c = c') : LeC c c' := .inr h
theorem LeC.dat {d d' : PyData} (h : d = d') : LeC (.dat d) (.dat d') := .inr (by rw [h])
theorem LeC.int {d d' : Int} (h : d = d') : LeC (.dat (.int d)) (.dat (.int d')) := .inr (by rw [h])
theorem LeC.str {d d' : Str} (h : d = d') : LeC (.dat (.str d)) (.dat (.str d')) := .inr (by rw [h])
theorem LeC.tup {d d' : List PyData} (h : d = d') : LeC (.dat (.tuple d)) (.dat (.tuple d')) := .inr (by rw [h])
theorem LeC.tupI {d d' : List Int} (h : d = d') : LeC (.dat (.tuple (d.map .int))) (.dat (.tuple (d'.map .int))) := .inr (by rw [h])
theorem LeC.own {d d' : List PyData} (h : d = d') : LeC (.own (.lst d)) (.own (.lst d')) := .inr (by rw [h])
theorem sm_le {st : List Stmt} {A1 A2 : List C} (h : Sm X A st (.nx A1)) (l : LeA A1 A2) : Sm X A st (.nx A2) := fun I0 H0 σ I H rl D f => h I0 H0 σ I H rl D fun σ' I' H' s r => f σ' I' H' s (l.rel r)
theorem s1_le {st : Stmt} {A1 A2 : List C} (h : S1 X A st (.nx A1)) (l : LeA A1 A2) : S1 X A st (.nx A2) := fun I0 H0 σ I H rl D f => h I0 H0 σ I H rl D fun σ' I' H' s r => f σ' I' H' s (l.rel r)
theorem sm_pre {st : List Stmt} {A1 : List C} {o : Out} (l : LeA A A1) (h : Sm X A1 st o) : Sm X A st o := fun I0 H0 σ I H rl D f => h I0 H0 σ I H (l.rel rl) D f

theorem lt_of_some {A : List C} {j : Nat} (h : A[j]?.isSome = true) : j < A.length := by
  by_cases hj : j < A.length
  · exact hj
  · rw [List.getElem?_eq_none (by omega)] at h; cases h
theorem s1_set (j : Nat) {c : C} {pos' : Pos} {A1 : List C} (hN : X.N.Nodup) (hi : X.N[j]? = some x) (hx : Loc X.env.scope x) (he : Ev X A e c) (hj : A[j]?.isSome = true) (hA : A.set j c = A1) (hs : swapsWith e (some (.Name x pos')) pos.line X.env = pure false := by rfl)
    (hf : X.fn x = true ∨ X.env.scope.names.lookup x = some .local := by first | exact .inl rfl | exact .inr rfl | assumption) : S1 X A (.Assign [.Name x pos'] e pos) (.nx A1) := fun I0 H0 σ I H rl D f => by
  subst hA
  exact ws_of (ps_set hN hi hx wx_pe hs hf) (he I0 H0 σ I H rl _ fun v I1 H1 g hv => f _ I1 H1 g.ii (rel_put rl g hv (lt_of_some hj)))
theorem s1_ret {c : C} (he : Ev X A e c) : S1 X A (.Return (some e) pos) (.rt c) := fun I0 H0 σ I H rl D f =>
  ws_of (ps_ret wx_pe) (he I0 H0 σ I H rl _ fun v I1 H1 g hv => f v I1 H1 g.ii (rl.gr.trans g) (hv.back rl.gr.hh))
/-- return of the def's own list -/
theorem s1_retO (j : Nat) {ob : Ob} (hN : X.N[j]? = some x) (hA : A[j]? = some (.own ob)) (hv : Vis X.env.scope x) (hd : (x == ("__debug__" : Str)) = false := by decide) (hcd : (x == ("__classdict__" : Str)) = false := by decide) :
    S1 X A (.Return (some (.Name x p)) pos) (.rt (.own ob)) := fun I0 H0 σ I H rl D f => by
  obtain ⟨q, o, e, n0, n, ho, hb⟩ := rl.cell j _ hA
  exact ws_of (ps_ret (pe_var hN hv hd hcd)) ⟨.ref q, e, f _ I H (Same.refl _) rl.gr ⟨q, o, rfl, n0, n, ho, hb⟩⟩
theorem s1_if {v : Bool} {s1 s2 : List Stmt} {o : Out} (hc : Et X A a v) (h1 : v = true → Sm X A s1 o) (h2 : v = false → Sm X A s2 o) : S1 X A (.If a s1 s2 pos) o := fun I0 H0 σ I H rl D f =>
  ws_of (ps_if wt_pe wss_pss wss_pss) (hc I0 H0 σ I H rl _ fun I1 H1 g => by
    cases v with
    | true => exact iteT (h1 rfl I0 H0 σ I1 H1 (rl.grow g) D (f.same g.ii))
    | false => exact iteF (h2 rfl I0 H0 σ I1 H1 (rl.grow g) D (f.same g.ii)))
/-- xs.append(e), xs the def's own list -/
theorem s1_append (j : Nat) {ds : List PyData} {d : PyData} {A1 : List C} {p3 p4 : Pos} (hN : X.N[j]? = some x) (hA : A[j]? = some (.own (.lst ds))) (hv : Vis X.env.scope x) (he : Ev X A e (.dat d)) (hz : ds.length < sizeLine) (hA1 : A.set j (.own (.lst (ds ++ [d]))) = A1)
    (hd : (x == ("__debug__" : Str)) = false := by decide) (hcd : (x == ("__classdict__" : Str)) = false := by decide) (hs : starEach (e :: []) X.env = (false, eval e X.env) :: starEach [] X.env := by rfl) (hpl : ((backTo p3 (starEach (e :: []) X.env)).all (fun x => !x.1) && (backToKw p3 (keywordEach [] X.env)).all (fun x => x.1.isSome) && decide (([e] : List Expr).length + ([] : List Keyword).length + (if ([] : List Keyword).isEmpty then 0 else 1) < 30)) = true := by rfl) (hline : (p2.endLine == p3.line) = true := by rfl)
    (hsw : swapsWith (.Call (.Attribute (.Name x p) "append" p2) [e] [] p3) none p4.line X.env = pure false := by rfl) : S1 X A (.Expr (.Call (.Attribute (.Name x p) "append" p2) [e] [] p3) p4) (.nx A1) := fun I0 H0 σ I H rl D f => by
  subst hA1
  have hj : j < A.length := by
    by_cases hj : j < A.length
    · exact hj
    · rw [List.getElem?_eq_none (by omega)] at hA; cases hA
  obtain ⟨q, o, e1, n0, n, ho, hb⟩ := rl.cell j _ hA
  obtain ⟨vs, rfl, ha⟩ := obAt_lst hb
  refine ws_of (ps_expr (pe_bm PySem.F.plainAttrs_list PySem.F.slot_list_append PySem.F.type_list_append mt_append (pe_var hN hv hd hcd) (pa_cons wx_pe pa_nil hs) (hfew := hpl) (hline := hline) (hs := hs) (hplain := rfl)) hsw) ⟨.ref q, e1, .inl ⟨rfl, _, .inl (.inl ho)⟩, ?_⟩
  refine he I0 H0 σ I H rl _ fun v I1 H1 g hv1 => ⟨q, vs, v, rfl, rfl, g.hh _ _ ho, by rw [dpAll_len ha]; exact hz, ?_⟩
  have n1 := g.nw q _ ho n
  have r1 := rl.grow g
  refine f σ I1 _ g.ii ⟨r1.gr.mut n0 n1, by rw [List.length_set]; exact r1.len, fun i c hc => ?_, fun i i' r ne o1 o2 h => ?_⟩
  · by_cases hi : j = i
    · subst hi
      rw [List.getElem?_set_self hj] at hc
      cases hc
      exact ⟨q, _, e1, n0, n1, upd_same, dpAll_append (dpAll_mono g.ii ha) (dpAll_one hv1)⟩
    · rw [List.getElem?_set_ne hi] at hc
      have z := r1.cell i c hc
      cases c with
      | un => trivial
      | rf a => exact z
      | tpo ds es => trivial
      | kn a d => exact z
      | dat d => exact z
      | own b =>
        obtain ⟨q2, o2, e2, m0, m, ho2, hb2⟩ := z
        refine ⟨q2, o2, e2, m0, m, ?_, hb2⟩
        have hne : q2 ≠ q := fun z => by
          subst z
          exact rl.apart j i q2 hi (by rw [hA]; trivial) (by rw [hc]; trivial) e1 e2
        rw [upd_ne hne]
        exact ho2
  · have key : ∀ i : Nat, isOwn (A.set j (.own (.lst (ds ++ [d]))))[i]? → isOwn A[i]? := fun i o => by
      by_cases hi : j = i
      · subst hi; rw [hA]; trivial
      · rw [List.getElem?_set_ne hi] at o; exact o
    exact r1.apart i i' r ne (key i o1) (key i' o2) h
/-- a name of the def's own list is from now on data -/
theorem sm_frz (j : Nat) {ds : List PyData} {st : List Stmt} {o : Out} (hA : A[j]? = some (.own (.lst ds))) (h : Sm X (A.set j (.dat (.list ds))) st o) : Sm X A st o := fun I0 H0 σ I H rl D f => by
  have hj : j < A.length := by
    by_cases hj : j < A.length
    · exact hj
    · rw [List.getElem?_eq_none (by omega)] at hA; cases hA
  obtain ⟨q, o', e1, n0, n, ho, hb⟩ := rl.cell j _ hA
  obtain ⟨vs, rfl, ha⟩ := obAt_lst hb
  have s2 : Same I (upd I q (.lst vs)) := fun b u z => by rw [upd_ne (ne_of_none z n)]; exact z
  refine h I0 H0 σ (upd I q (.lst vs)) H ⟨rl.gr.know n0 n ho, by rw [List.length_set]; exact rl.len, fun i c hc => ?_, fun i i' r ne o1 o2 hr => ?_⟩ D (f.same s2)
  · by_cases hi : j = i
    · subst hi
      rw [List.getElem?_set_self hj] at hc
      cases hc
      exact ⟨.ref q, e1, .lst (.inl (.inl upd_same)) (dpAll_mono s2 ha)⟩
    · rw [List.getElem?_set_ne hi] at hc
      have z := rl.cell i c hc
      cases c with
      | un => trivial
      | rf a => exact z
      | tpo ds es => trivial
      | kn a d => exact ⟨z.1, dp_mono s2 z.2⟩
      | dat d => obtain ⟨v, e2, hd⟩ := z; exact ⟨v, e2, dp_mono s2 hd⟩
      | own b =>
        obtain ⟨q2, o2, e2, m0, m, ho2, hb2⟩ := z
        have hne : q2 ≠ q := fun z => by
          subst z
          exact rl.apart j i q2 hi (by rw [hA]; trivial) (by rw [hc]; trivial) e1 e2
        exact ⟨q2, o2, e2, m0, by rw [upd_ne hne]; exact m, ho2, obAt_mono s2 hb2⟩
  · have key : ∀ i : Nat, isOwn (A.set j (.dat (.list ds)))[i]? → isOwn A[i]? := fun i o => by
      by_cases hi : j = i
      · subst hi; rw [hA]; trivial
      · rw [List.getElem?_set_ne hi] at o; exact o
    exact rl.apart i i' r ne (key i o1) (key i' o2) hr
end
end LR

set_option Elab.async false
set_option linter.all false
set_option maxRecDepth 100000
set_option maxHeartbeats 4000000
/-! The layer LR, part d: comprehensions, for, while, raise, the rule of a def. -/
namespace LR
open PySem PySem.Spec PyProof.Rows L2

section
variable {X : Cx} {e a b : Expr} {es : List Expr} {σ : L2.St} {H : Hp} {Q : VK} {A : List C} {pos p p2 : Pos} {x : Str}

/-- what a target does: U says how the state of the names becomes -/
structure TgOk (K : PySem.W.Frag) (g : TG) (U : List C → PyData → List C → Prop) : Prop where
  run : ∀ I0 H0 σ I H A d A' v, U A d A' → Rel K I0 H0 A σ I H → Dp K I v d → ∀ Q : L2.St → Hp → Prop, (∀ σ', Rel K I0 H0 A' σ' I H → Q σ' H) → g v σ H Q
def uName (j : Nat) : List C → PyData → List C → Prop := fun A d A' => A[j]?.isSome = true ∧ A' = A.set j (.dat d)
def uNames : List Nat → List C → List PyData → List C → Prop
  | [], A, ds, A' => ds = [] ∧ A' = A
  | j :: js, A, ds, A' => ∃ d r, ds = d :: r ∧ A[j]?.isSome = true ∧ uNames js (A.set j (.dat d)) r A'
def uTup (js : List Nat) : List C → PyData → List C → Prop := fun A d A' => ∃ ds, d = .tuple ds ∧ uNames js A ds A'
theorem tg_name {K : PySem.W.Frag} {j : Nat} : TgOk K (gName j) (uName j) := ⟨fun I0 H0 σ I H A d A' v ⟨hj, e⟩ r hd Q q => by subst e; exact q _ (rel_set r hd (lt_of_some hj))⟩
def gNames : List Nat → TGs
  | [] => gNil
  | j :: js => gCons (gName j) (gNames js)
theorem tg_names {K : PySem.W.Frag} : ∀ {js : List Nat} {I0 H0 : Hp} {σ : L2.St} {I H : Hp} {A A' : List C} {ds : List PyData} {vs : List V}, uNames js A ds A' → Rel K I0 H0 A σ I H → DpAll K I vs ds → ∀ Q : L2.St → Hp → Prop, (∀ σ', Rel K I0 H0 A' σ' I H → Q σ' H) → gNames js vs σ H Q
  | [], _, _, _, _, _, _, _, _, _, ⟨e1, e2⟩, r, hv, Q, q => by subst e1 e2; cases hv; exact ⟨rfl, q _ r⟩
  | j :: js, I0, H0, σ, I, H, A, A', ds, vs, ⟨d, rd, e1, hj, u⟩, r, hv, Q, q => by
    subst e1
    cases hv with
    | cons h1 h2 => exact ⟨_, _, rfl, tg_names u (rel_set r h1 (lt_of_some hj)) h2 Q q⟩
theorem uNames_len : ∀ {js : List Nat} {A A' : List C} {ds : List PyData}, uNames js A ds A' → ds.length = js.length
  | [], _, _, _, ⟨e, _⟩ => by subst e; rfl
  | j :: js, _, _, _, ⟨d, r, e, _, u⟩ => by subst e; rw [List.length_cons, List.length_cons, uNames_len u]
theorem tg_tup {K : PySem.W.Frag} {js : List Nat} : TgOk K (gTup K js.length (gNames js)) (uTup js) := ⟨fun I0 H0 σ I H A d A' v ⟨ds, e, u⟩ r hd Q q => by
  subst e
  obtain ⟨p, vs, rfl, hs, ha⟩ := dp_tup hd
  exact ⟨p, vs, rfl, same_t r.ih hs, by rw [dpAll_len ha, uNames_len u], tg_names u r ha Q q⟩⟩

/-! ### for -/
inductive ExitOf : Out → Out → Prop
  | rt (c : C) : ExitOf (.rt c) (.rt c)
  | ex (x : Str) (A : List C) : ExitOf (.ex x A) (.ex x A)
  | bk (A : List C) : ExitOf (.bk A) (.nx A)
theorem s1_for {tg : Expr} {body : List Stmt} {src : List PyData} {g : TG} {U : List C → PyData → List C → Prop} {o : Out} (hp : PassesOwn (model X.prog X.w) X.A X.env X.xe) (hc : X.calm = true) (hi : EvI X A tg e src) (hg : PG X tg g) (ht : TgOk X.K g U)
    (inv : Nat → List C) (n : Nat) (hn : n ≤ src.length) (h0 : LeA A (inv 0))
    (hb : ∀ (i : Nat) (d : PyData), i < n → src[i]? = some d → ∃ A1, U (inv i) d A1 ∧ Sm X A1 body (.nx (inv (i + 1))))
    (he : (n = src.length ∧ o = .nx (inv n)) ∨ ∃ d A1 o', src[n]? = some d ∧ U (inv n) d A1 ∧ Sm X A1 body o' ∧ ExitOf o' o) (hs : ∀ x, foldedSetIterable e X.env x = pure x := by intro _; rfl) : S1 X A (.For tg e body [] pos) o := fun I0 H0 σ I H rl D f => by
  obtain ⟨wi, hpi, hwi⟩ := hi
  refine ws_of (ps_for hp hc hpi hg wss_pss hs) (hwi I0 H0 σ I H rl _ fun J I1 H1 g1 hJ => ?_)
  have f1 := f.same g1.ii
  refine ⟨fun i m σ' H' => m = n - i ∧ i ≤ n ∧ ∃ I', Same I1 I' ∧ Rel X.K I0 H0 (inv i) σ' I' H', ⟨n, by simp, Nat.zero_le _, I1, Same.refl _, h0.rel (rl.grow g1)⟩, ?_⟩
  rintro i m σ' H' ⟨rfl, hin, I', s1, r'⟩
  by_cases hlt : i < n
  · have hd : src[i]? = some (src[i]'(by omega)) := List.getElem?_eq_getElem _
    obtain ⟨go, yl⟩ := hJ.1 i _ hd I' H' s1 r'.ih
    refine .inr ⟨go, fun σ2 H2 => ∃ I2, Same I1 I2 ∧ Rel X.K I0 H0 (inv (i + 1)) σ2 I2 H2, fun σ2 H2 ⟨I2, s2, r2⟩ => ⟨n - (i + 1), by omega, rfl, hlt, I2, s2, r2⟩, fun v H3 hy => ?_⟩
    obtain ⟨I3, g3, hv⟩ := yl v H3 hy
    obtain ⟨A1, hU, hS⟩ := hb i _ hlt hd
    refine ht.run I0 H0 σ' I3 H3 _ _ A1 v hU (r'.grow g3) hv _ fun σ2 r2 => ?_
    have q := hS I0 H0 σ2 I3 H3 r2 { D with nx := fun σ2 H2 => ∃ I2, Same I1 I2 ∧ Rel X.K I0 H0 (inv (i + 1)) σ2 I2 H2, ct := fun σ2 H2 => ∃ I2, Same I1 I2 ∧ Rel X.K I0 H0 (inv (i + 1)) σ2 I2 H2, bk := D.nx }
      fun σ4 I4 H4 s4 r4 => ⟨I4, (s1.trans g3.ii).trans s4, r4⟩
    exact q
  · have ein : i = n := by omega
    subst ein
    rcases he with ⟨e1, e2⟩ | ⟨d, A1, o', hd, hU, hS, hx⟩
    · subst e2
      refine .inl ⟨?_, ?_⟩
      · rw [e1]; exact hJ.2 I' H' s1 r'.ih
      · exact f1 σ' I' H' s1 r'
    · obtain ⟨go, yl⟩ := hJ.1 i _ hd I' H' s1 r'.ih
      refine .inr ⟨go, fun _ _ => False, fun _ _ h => h.elim, fun v H3 hy => ?_⟩
      obtain ⟨I3, g3, hv⟩ := yl v H3 hy
      refine ht.run I0 H0 σ' I3 H3 _ _ A1 v hU (r'.grow g3) hv _ fun σ2 r2 => ?_
      refine hS I0 H0 σ2 I3 H3 r2 { D with nx := fun _ _ => False, ct := fun _ _ => False, bk := D.nx } ?_
      have f3 := f1.same (s1.trans g3.ii)
      cases hx with
      | rt c => exact f3
      | ex x A => exact f3
      | bk A => exact f3
/-! ### while -/
theorem s1_while {c : Expr} {body : List Stmt} {o : Out} (hp : PassesOwn (model X.prog X.w) X.A X.env X.xe) (inv : Nat → List C) (n : Nat) (h0 : LeA A (inv 0))
    (hb : ∀ i, i < n → Et X (inv i) c true ∧ Sm X (inv i) body (.nx (inv (i + 1))))
    (he : (Et X (inv n) c false ∧ o = .nx (inv n)) ∨ ∃ o', Et X (inv n) c true ∧ Sm X (inv n) body o' ∧ ExitOf o' o) : S1 X A (.While c body [] pos) o := fun I0 H0 σ I H rl D f => by
  refine ws_of (ps_while hp wt_pe wss_pss) ?_
  refine ⟨fun m σ' H' => ∃ i, m = n - i ∧ i ≤ n ∧ ∃ I', Same I I' ∧ Rel X.K I0 H0 (inv i) σ' I' H', ⟨n, 0, by simp, Nat.zero_le _, I, Same.refl _, h0.rel rl⟩, ?_⟩
  rintro m σ' H' ⟨i, rfl, hin, I', s1, r'⟩
  by_cases hlt : i < n
  · obtain ⟨hc, hS⟩ := hb i hlt
    refine hc I0 H0 σ' I' H' r' _ fun I2 H2 g2 => ?_
    refine iteT ⟨fun σ2 H2 => ∃ I2, Same I I2 ∧ Rel X.K I0 H0 (inv (i + 1)) σ2 I2 H2, fun σ2 H2 ⟨I2, s2, r2⟩ => ⟨n - (i + 1), by omega, i + 1, rfl, hlt, I2, s2, r2⟩, ?_⟩
    exact hS I0 H0 σ' I2 H2 (r'.grow g2) _ fun σ4 I4 H4 s4 r4 => ⟨I4, (s1.trans g2.ii).trans s4, r4⟩
  · have ein : i = n := by omega
    subst ein
    have f1 := f.same s1
    rcases he with ⟨hc, e2⟩ | ⟨o', hc, hS, hx⟩
    · subst e2
      exact hc I0 H0 σ' I' H' r' _ fun I2 H2 g2 => iteF (f1 σ' I2 H2 g2.ii (r'.grow g2))
    · refine hc I0 H0 σ' I' H' r' _ fun I2 H2 g2 => iteT ⟨fun _ _ => False, fun _ _ h => h.elim, ?_⟩
      refine hS I0 H0 σ' I2 H2 (r'.grow g2) _ ?_
      have f3 := f1.same g2.ii
      cases hx with
      | rt c => exact f3
      | ex x A => exact f3
      | bk A => exact f3

/-! ### list comprehensions -/
def blkOf (X : Cx) (scope : Scope) (s : Shared) (H : Hp) (C : Addr) (cl : List (Str × Addr)) (fp : List Addr) : Cx := X.blk s H scope (compEnvC scope cl C X.env) fp
/-- .. in every block of it -/
def EvB (X : Cx) (scope : Scope) (A : List C) (e : Expr) (d : PyData) : Prop := ∀ s H C cl fp, Ev (X.blk s H scope (compEnvC scope cl C X.env) fp) A e (.dat d)
def EtB (X : Cx) (scope : Scope) (A : List C) (ifs : List Expr) (v : Bool) : Prop := match ifs with
  | [] => v = true
  | [c] => ∀ s H C cl fp, Et (X.blk s H scope (compEnvC scope cl C X.env) fp) A c v
  | _ => False
theorem rel_out {K : PySem.W.Frag} {I0 H0 I H : Hp} {A : List C} {σ : L2.St} {D : Addr} {o : HO} (r : Rel K I0 H0 A σ I H) (n0 : H0 D = none) (n : I D = none) (far : ∀ i : Nat, isOwn A[i]? → σ[i]? ≠ some (some (.ref D))) : Rel K I0 H0 A σ I (upd H D o) where
  gr := r.gr.mut n0 n
  len := r.len
  cell := fun i c h => by
    have z := r.cell i c h
    cases c with
    | un => trivial
    | rf a => exact z
    | tpo ds es => trivial
    | kn a d => exact z
    | dat d => exact z
    | own b =>
      obtain ⟨q, o2, e, m0, m, ho, hb⟩ := z
      have hne : q ≠ D := fun z => by
        subst z
        exact far i (by rw [h]; trivial) e
      exact ⟨q, o2, e, m0, m, by rw [upd_ne hne]; exact ho, hb⟩
  apart := r.apart
def wipeA (A : List C) : List Nat → List C
  | [] => A
  | v :: vs => (wipeA A vs).set v .un
theorem rel_wipe {K : PySem.W.Frag} {I0 H0 I H : Hp} {A : List C} {σ : L2.St} (r : Rel K I0 H0 A σ I H) : ∀ vs : List Nat, Rel K I0 H0 (wipeA A vs) (wipe σ vs) I H
  | [] => r
  | v :: vs => rel_un (rel_wipe r vs)
theorem isOwn_wipe {A : List C} {i : Nat} : ∀ {vs : List Nat}, isOwn (wipeA A vs)[i]? → isOwn A[i]? ∧ i ∉ vs
  | [], h => ⟨h, by simp⟩
  | v :: vs, h => by
    unfold wipeA at h
    by_cases hv : v = i
    · subst hv
      by_cases hl : v < (wipeA A vs).length
      · rw [List.getElem?_set_self hl] at h; exact h.elim
      · rw [List.getElem?_eq_none (by simpa using hl)] at h; exact h.elim
    · rw [List.getElem?_set_ne hv] at h
      obtain ⟨h1, h2⟩ := isOwn_wipe (vs := vs) h
      exact ⟨h1, by simp [h2]; exact fun z => hv z.symm⟩
/-- the block's target stores to the block's own names alone -/
structure TgW (g : TG) (vs : List Nat) : Prop where
  run : ∀ v σ H Q, g v (wipe σ vs) H Q → g v (wipe σ vs) H fun σ2 H2 => wipe σ2 vs = wipe σ vs ∧ Q σ2 H2
theorem set_set_none {σ : L2.St} {j : Nat} {x : Option V} : ((σ.set j none).set j x).set j none = σ.set j none := by rw [List.set_set, List.set_set]
theorem tgw_name {j : Nat} : TgW (gName j) [j] := ⟨fun v σ H Q q => ⟨by
  show ((σ.set j none).set j (some v)).set j none = σ.set j none
  exact set_set_none, q⟩⟩
theorem tgw_two {K : PySem.W.Frag} {i j : Nat} (hij : i ≠ j) : TgW (gTup K [i, j].length (gNames [i, j])) [i, j] := ⟨fun v σ H Q q => by
  obtain ⟨a, xs, e1, hs, hl, v1, r1, e2, v2, r2, e3, e4, q⟩ := q
  refine ⟨a, xs, e1, hs, hl, v1, r1, e2, v2, r2, e3, e4, (by
  show (List.set (List.set ((List.set (List.set (List.set (List.set σ j none) i none) i (some v1)) j (some v2))) j none) i none) = List.set (List.set σ j none) i none
  apply List.ext_getElem?
  intro k
  simp only [List.getElem?_set, List.length_set]
  by_cases h1 : i = k
  · simp [h1]
  · by_cases h2 : j = k
    · simp [h1, h2]
    · simp [h1, h2]), q⟩⟩
theorem lc_both {α : Type} {elt tg iter : Expr} {ifs : List Expr} {scope : Scope} {own : List (Str × Nat)} {g : TG} {U : List C → PyData → List C → Prop} {src : List PyData} (xs : List α) (enc : α → PyData) (pr : α → Bool) (f : α → PyData)
    (hc : X.calm = true) (hN : X.N.Nodup) (hi : EvI X A tg iter src) (hsrc : src = xs.map enc) (ok : BlkOk X.N X.env.scope scope own)
    (hg : ∀ (s : Shared) (H : Hp) (C : Addr) (cl : List (Str × Addr)) (fp : List Addr), PG (X.blk s H scope (compEnvC scope cl C X.env) fp) tg g) (ht : TgOk X.K g U) (hw : TgW g (own.map (·.2)))
    (hl : ifs.length ≤ 1) (hz : xs.length < sizeLine)
    (hb : ∀ x, x ∈ xs → ∃ A1, U (wipeA A (own.map (·.2))) (enc x) A1 ∧ EtB X scope A1 ifs (pr x) ∧ (pr x = true → EvB X scope A1 elt (f x)))
    (hs : ∀ x, foldedSetIterable iter X.env x = pure x := by intro _; rfl) :
    ∃ t : TE, PE X (.ListComp elt [⟨tg, iter, ifs, 0⟩] scope pos) t ∧ (∀ (i : Nat) (y : Str) (py spos : Pos), X.N[i]? = some y → X.env.scope.names.lookup y = some .local → swapsWith (.ListComp elt [⟨tg, iter, ifs, 0⟩] scope pos) (some (.Name y py)) spos.line X.env = pure true →
      PS X (.Assign [.Name y py] (.ListComp elt [⟨tg, iter, ifs, 0⟩] scope pos) spos) (tAsg t (gName i))) ∧ ∀ I0 H0 σ I H, Rel X.K I0 H0 A σ I H → ∀ Q : VK, (∀ v I' H', Grow I H I' H' → VR X.K H I' H' v (.own (.lst ((xs.filter pr).map f))) → Q v H') → t σ H Q := by
  subst hsrc
  obtain ⟨wi, hpi, hwi⟩ := hi
  let te : TE := fun σ H Q => ∀ s H' C cl fp, Wx (X.blk s H' scope (compEnvC scope cl C X.env) fp) elt σ H Q
  let tt : TT := match ifs with
    | [] => tYes
    | c :: _ => fun σ H Q => ∀ s H' C cl fp, Wt (X.blk s H' scope (compEnvC scope cl C X.env) fp) c σ H Q
  have htt : ∀ (s : Shared) (H : Hp) (C : Addr) (cl : List (Str × Addr)) (fp : List Addr), PTs (X.blk s H scope (compEnvC scope cl C X.env) fp) ifs tt := fun s H C cl fp => by
    cases ifs with
    | nil => exact pts_nil
    | cons c r =>
      cases r with
      | nil => exact pts_one ⟨fun pins s' σ H' Q I h => h s H C cl fp pins s' I⟩
      | cons c2 r => simp at hl
  refine ⟨_, pe_lc hc hN hpi ok hg htt (te := te) (fun s H C cl fp => ⟨fun pins s' σ H' Q I h => h s H C cl fp pins s' I⟩) hs, fun i y py spos h1 h2 h3 => ps_setLc hc hN h1 h2 h3 hpi ok hg htt (te := te) (fun s H C cl fp => ⟨fun pins s' σ H' Q I h => h s H C cl fp pins s' I⟩) hs, fun I0 H0 σ I H rl Q q => ?_⟩
  refine hwi I0 H0 σ I H rl _ fun J I1 H1 g1 hJ D hD => ?_
  have r1 := rl.grow g1
  have n0 : H0 D = none := r1.gr.hh.free hD
  have far : ∀ i : Nat, isOwn (wipeA A (own.map (·.2)))[i]? → (wipe σ (own.map (·.2)))[i]? ≠ some (some (.ref D)) := fun i o => by
    obtain ⟨o1, o2⟩ := isOwn_wipe o
    rw [wipe_out o2]
    exact r1.far hD i o1
  refine ⟨fun i m H' => m = xs.length - i ∧ i ≤ xs.length ∧ ∃ I' acc, Same I1 I' ∧ Grow I H I' H' ∧ I' D = none ∧ H' D = some (.lst acc) ∧ DpAll X.K I' acc (((xs.take i).filter pr).map f) ∧ Rel X.K I0 H0 (wipeA A (own.map (·.2))) (wipe σ (own.map (·.2))) I' H',
    ⟨xs.length, by simp, Nat.zero_le _, I1, [], Same.refl _, g1.mut (g1.hh.free hD) (g1.ih.free hD), g1.ih.free hD, upd_same, .nil, rel_out (rel_wipe r1 _) n0 (g1.ih.free hD) far⟩, ?_⟩
  rintro i m H' ⟨rfl, hin, I', acc, s1, gg, nD, hacc, hda, r'⟩
  by_cases hlt : i < xs.length
  · have hx : xs[i]? = some xs[i] := List.getElem?_eq_getElem _
    have hd : (xs.map enc)[i]? = some (enc xs[i]) := by rw [List.getElem?_map, hx]; rfl
    obtain ⟨go, yl⟩ := hJ.1 i _ hd I' H' s1 r'.ih
    refine .inr ⟨go, fun H2 => ∃ I2 acc, Same I1 I2 ∧ Grow I H I2 H2 ∧ I2 D = none ∧ H2 D = some (.lst acc) ∧ DpAll X.K I2 acc (((xs.take (i + 1)).filter pr).map f) ∧ Rel X.K I0 H0 (wipeA A (own.map (·.2))) (wipe σ (own.map (·.2))) I2 H2,
      fun H2 ⟨I2, acc2, z⟩ => ⟨xs.length - (i + 1), by omega, rfl, hlt, I2, acc2, z⟩, fun v H3 hy => ?_⟩
    obtain ⟨I3, g3, hv⟩ := yl v H3 hy
    obtain ⟨A1, hU, hT, hE⟩ := hb xs[i] (List.getElem_mem _)
    have r3 := r'.grow g3
    refine hw.run v σ H3 _ (ht.run I0 H0 _ I3 H3 _ _ A1 v hU r3 hv _ fun σ2 r2 => ?_)
    have tk : ((xs.take (i + 1)).filter pr).map f = ((xs.take i).filter pr).map f ++ (if pr xs[i] then [f xs[i]] else []) := by
      rw [List.take_add_one, hx, List.filter_append, List.map_append]
      congr 1
      cases hp : pr xs[i] <;> simp [hp]
    have nD3 := g3.nw D _ hacc nD
    have fin : ∀ I4 H4, Grow I3 H3 I4 H4 → (if pr xs[i] = true then te σ2 H4 fun y H5 => ∃ acc, H5 D = some (.lst acc) ∧ acc.length < sizeLine ∧ ∃ I2 acc', Same I1 I2 ∧ Grow I H I2 (upd H5 D (.lst (acc ++ [y]))) ∧ I2 D = none ∧ (upd H5 D (.lst (acc ++ [y]))) D = some (.lst acc') ∧ DpAll X.K I2 acc' (((xs.take (i + 1)).filter pr).map f) ∧ Rel X.K I0 H0 (wipeA A (own.map (·.2))) (wipe σ (own.map (·.2))) I2 (upd H5 D (.lst (acc ++ [y])))
        else ∃ I2 acc, Same I1 I2 ∧ Grow I H I2 H4 ∧ I2 D = none ∧ H4 D = some (.lst acc) ∧ DpAll X.K I2 acc (((xs.take (i + 1)).filter pr).map f) ∧ Rel X.K I0 H0 (wipeA A (own.map (·.2))) (wipe σ (own.map (·.2))) I2 H4) := fun I4 H4 g4 => by
      have nD4 := g4.nw D _ (g3.hh _ _ hacc) nD3
      cases hp : pr xs[i] with
      | true =>
        rw [if_pos rfl]
        intro s5 H5' C5 cl5 fp5
        refine hE hp s5 H5' C5 cl5 fp5 I0 H0 σ2 I4 H4 (r2.grow g4) _ fun y I5 H5 g5 hy => ?_
        have nD5 := g5.nw D _ (g4.hh _ _ (g3.hh _ _ hacc)) nD4
        have g35 := (g3.trans g4).trans g5
        refine ⟨acc, g35.hh _ _ hacc, ?_, I5, acc ++ [y], s1.trans g35.ii, (gg.trans g35).mut (g1.hh.free hD) nD5, nD5, upd_same, ?_, ?_⟩
        · have e1 := dpAll_len hda
          rw [List.length_map] at e1
          have e2 := List.length_filter_le pr (xs.take i)
          rw [List.length_take] at e2
          omega
        · rw [tk, hp, if_pos rfl]
          exact dpAll_append (dpAll_mono g35.ii hda) (dpAll_one hy)
        · exact rel_out (r'.grow g35) n0 nD5 far
      | false =>
        rw [if_neg Bool.false_ne_true]
        have g34 := g3.trans g4
        refine ⟨I4, acc, s1.trans g34.ii, gg.trans g34, nD4, g34.hh _ _ hacc, ?_, r'.grow g34⟩
        rw [tk, hp, if_neg Bool.false_ne_true, List.append_nil]
        exact dpAll_mono g34.ii hda
    cases ifs with
    | nil =>
      have hT' : pr xs[i] = true := by have hT2 := hT; simp only [EtB] at hT2; exact hT2
      have z := fin I3 H3 (.refl r2.ih)
      rw [if_pos hT'] at z
      exact (show ∀ (k : Bool → Hp → Prop), k true H3 → tt σ2 H3 k from fun k h => h) _ (by
        dsimp only
        rw [if_pos rfl]
        exact z)
    | cons c r =>
      cases r with
      | cons c2 r => simp at hl
      | nil =>
        intro s5 H5' C5 cl5 fp5
        exact hT s5 H5' C5 cl5 fp5 I0 H0 σ2 I3 H3 r2 _ fun I4 H4 g4 => fin I4 H4 g4
  · have ein : i = xs.length := by omega
    subst ein
    refine .inl ⟨?_, ?_⟩
    · have z := hJ.2 I' H' s1 r'.ih
      rw [List.length_map] at z
      exact z
    · rw [List.take_length] at hda
      exact q _ I' H' gg ⟨D, .lst acc, rfl, g1.hh.free hD, nD, hacc, hda⟩
theorem ev_lc {α : Type} {elt tg iter : Expr} {ifs : List Expr} {scope : Scope} {own : List (Str × Nat)} {g : TG} {U : List C → PyData → List C → Prop} {src : List PyData} (xs : List α) (enc : α → PyData) (pr : α → Bool) (f : α → PyData)
    (hc : X.calm = true) (hN : X.N.Nodup) (hi : EvI X A tg iter src) (hsrc : src = xs.map enc) (ok : BlkOk X.N X.env.scope scope own)
    (hg : ∀ (s : Shared) (H : Hp) (C : Addr) (cl : List (Str × Addr)) (fp : List Addr), PG (X.blk s H scope (compEnvC scope cl C X.env) fp) tg g) (ht : TgOk X.K g U) (hw : TgW g (own.map (·.2)))
    (hl : ifs.length ≤ 1) (hz : xs.length < sizeLine)
    (hb : ∀ x, x ∈ xs → ∃ A1, U (wipeA A (own.map (·.2))) (enc x) A1 ∧ EtB X scope A1 ifs (pr x) ∧ (pr x = true → EvB X scope A1 elt (f x)))
    (hs : ∀ x, foldedSetIterable iter X.env x = pure x := by intro _; rfl) : Ev X A (.ListComp elt [⟨tg, iter, ifs, 0⟩] scope pos) (.own (.lst ((xs.filter pr).map f))) := fun I0 H0 σ I H rl Q q => by
  obtain ⟨t, hp, _, h⟩ := lc_both xs enc pr f hc hN hi hsrc ok hg ht hw hl hz hb hs
  exact wx_of hp (h I0 H0 σ I H rl Q q)
theorem s1_setLc {α : Type} {elt tg iter : Expr} {ifs : List Expr} {scope : Scope} {own : List (Str × Nat)} {g : TG} {U : List C → PyData → List C → Prop} {src : List PyData} (xs : List α) (enc : α → PyData) (pr : α → Bool) (f : α → PyData)
    (hc : X.calm = true) (hN : X.N.Nodup) (hi : EvI X A tg iter src) (hsrc : src = xs.map enc) (ok : BlkOk X.N X.env.scope scope own)
    (hg : ∀ (s : Shared) (H : Hp) (C : Addr) (cl : List (Str × Addr)) (fp : List Addr), PG (X.blk s H scope (compEnvC scope cl C X.env) fp) tg g) (ht : TgOk X.K g U) (hw : TgW g (own.map (·.2)))
    (hl : ifs.length ≤ 1) (hz : xs.length < sizeLine)
    (hb : ∀ x, x ∈ xs → ∃ A1, U (wipeA A (own.map (·.2))) (enc x) A1 ∧ EtB X scope A1 ifs (pr x) ∧ (pr x = true → EvB X scope A1 elt (f x)))
    (hs : ∀ x, foldedSetIterable iter X.env x = pure x := by intro _; rfl)
    {i : Nat} {y : Str} {py spos : Pos} (h1 : X.N[i]? = some y) (h2 : X.env.scope.names.lookup y = some .local) (h3 : swapsWith (.ListComp elt [⟨tg, iter, ifs, 0⟩] scope pos) (some (.Name y py)) spos.line X.env = pure true) (hj : A[i]?.isSome = true) :
    S1 X A (.Assign [.Name y py] (.ListComp elt [⟨tg, iter, ifs, 0⟩] scope pos) spos) (.nx (A.set i (.own (.lst ((xs.filter pr).map f))))) := fun I0 H0 σ I H rl D q => by
  obtain ⟨t, _, hp, h⟩ := lc_both (pos := pos) (elt := elt) xs enc pr f hc hN hi hsrc ok hg ht hw hl hz hb hs
  exact ws_of (hp i y py spos h1 h2 h3) (h I0 H0 σ I H rl _ fun v I1 H1 g hv => q _ I1 H1 g.ii (rel_put rl g hv (lt_of_some hj)))
end
end LR

set_option Elab.async false
set_option linter.all false
set_option maxRecDepth 100000
set_option maxHeartbeats 4000000
/-! The layer LR, part e: raise, the rule of a def. -/
namespace LR
open PySem PySem.Spec PyProof.Rows L2

/-- an exception class of the text, right under others of it or ValueError -/
structure XC (K : PySem.W.Frag) (mg : Str → Option Value) (x : Str) : Prop where
  ex : ∃ c, mg x = some (.ref c) ∧ PySem.W.excIn K c [.type "ValueError", .type "Exception", .type "BaseException", .type "object"] "ValueError.__new__" = true ∧ PySem.W.keepIn K (.ref c) = true ∧
    PySem.W.subIn K (.ref c) (.type "BaseException") = some true ∧ PySem.W.typeIn K (.ref c) = some (.type "type")
section
variable {X : Cx} {A : List C} {pos p p2 : Pos} {x m : Str}
theorem s1_raise {j} (hc : X.calm = true) (F : XC X.K X.mg x) (hg : Gl X x) (hs : X.stack = X.env :: X.outer) (hf : X.env.frame = some X.env.locals) (hdb : (x == ("__debug__" : Str)) = false := by decide) :
    S1 X A (.Raise (some (.Call (.Name x p) [.Constant (.str m) j p2] [] pos)) none pos') (.ex x A) := fun I0 H0 σ I H rl D f => by
  obtain ⟨W, tk, f⟩ := f
  obtain ⟨c, gC, q, kC, b, t⟩ := F.ex
  exact ws_of (ps_raise hc tk (pmk_own PySem.F.excBase_ValueError q gC kC (raises_own b t) hg hdb)) (f σ I H (Same.refl _) rl c gC)
end
/-- the state of the names at a def's begin -/
def A0 (N : List Str) (ds : List PyData) : List C := ds.map .dat ++ List.replicate (N.length - ds.length) .un
def SmR (X : Cx) (A : List C) (st : List Stmt) : Res → Prop
  | .ok c => Sm X A st (.rt c)
  | .ex x => ∃ A', Sm X A st (.ex x A')
section
variable {P : Program} {w : World} {K : PySem.W.Frag} {mg : Str → Option Value} {base : Heap}
theorem rel_start {N : List Str} {vs : List V} {ds : List PyData} {I H : Hp} (s : Same I H) (h : DpAll K I vs ds) : Rel K I H (A0 N ds) (start N vs) I H where
  gr := .refl s
  len := by unfold A0 L2.start; rw [List.length_append, List.length_append, List.length_map, List.length_map, List.length_replicate, List.length_replicate, dpAll_len h]
  cell := fun i c hc => by
    unfold A0 at hc
    by_cases hi : i < ds.length
    · rw [List.getElem?_append_left (by simpa using hi), List.getElem?_map, List.getElem?_eq_getElem hi] at hc
      cases hc
      obtain ⟨v, h1, h2⟩ := dpAll_get h (List.getElem?_eq_getElem hi)
      refine ⟨v, ?_, h2⟩
      unfold L2.start
      rw [List.getElem?_append_left (by rw [List.length_map, dpAll_len h]; exact hi), List.getElem?_map, h1]
      rfl
    · rw [List.getElem?_append_right (by simpa using hi), List.getElem?_replicate] at hc
      split at hc
      · cases hc; trivial
      · cases hc
  apart := fun i j p _ o _ _ => by
    unfold A0 at o
    by_cases hi : i < ds.length
    · rw [List.getElem?_append_left (by simpa using hi), List.getElem?_map, List.getElem?_eq_getElem hi] at o
      exact o.elim
    · rw [List.getElem?_append_right (by simpa using hi), List.getElem?_replicate] at o
      split at o
      · exact o.elim
      · exact o.elim
theorem fn_ok {x qual : Str} {st : Stmt} {f : Addr} {fd : FuncData} {N ps : List Str} {k : Nat} {R : List PyData → Res → Prop} (F : Fun K x qual st f fd) (hm : mg x = some (.ref f)) (b : Binds K fd ps []) (S : FnScope N ps (defScope st)) (hR : ∀ ds r, R ds r → ds.length = ps.length)
    (hbody : ∀ (cdv : Value) (A : Around) (outer : List Env) (s : Shared) (H : Hp) (E : XK), Room k (A.deeper (envOfC qual (defScope st) s.heap.objs.size f cdv)) → ∀ ds r, R ds r →
      SmR (cxOf (L2.CX P w) P w K mg base N qual (defScope st) f cdv A outer s H E) (A0 N ds) (defBody st) r) : Fn P w K mg base (k + 1) x ps R := by
  have hlk : ∃ (oc : Value) (od : Option Addr) (osl : Array (Option Value)), K.lookup f = some ⟨oc, od, .func fd, osl⟩ := by
    obtain ⟨oc, od, _, _, _, _, _, _, osl, _, h, _⟩ := F.ex
    exact ⟨oc, od, osl, h⟩
  refine ⟨f, fd, F.okX S (fun vs H Q E ⟨I, ds, r, _, hd, hr, _⟩ => by rw [dpAll_len hd, hR ds r hr]) (fun cdv A outer s H vs Q E hr ⟨I, ds, r, si, hd, h, q⟩ => ?_), hm, F.kp, b, hlk⟩
  refine ⟨_, wss_pss, ?_⟩
  have z := hbody cdv A outer s H E hr ds r h
  cases r with
  | ok c => exact z I H (start N vs) I H (rel_start si hd) _ fun v I' H' _ g hv => q v I' H' g hv
  | ex y =>
    obtain ⟨A', z⟩ := z
    exact z I H (start N vs) I H (rel_start si hd) _ ⟨_, takes_of rfl rfl rfl rfl, fun σ' I' H' _ r c hc => q I' H' r.gr c hc⟩
end
end LR

set_option Elab.async false
set_option linter.all false
set_option maxRecDepth 100000
set_option maxHeartbeats 4000000
/-! The layer LR, part f: rules by the shape of the data, encodings. -/
namespace LR
open PySem PySem.Spec PyProof.Rows L2

abbrev tI (xs : List Int) : PyData := .tuple (xs.map .int)
abbrev tT (t : List (List Int)) : PyData := .tuple (t.map tI)
abbrev lT (t : List (List Int)) : PyData := .list (t.map tI)
/-! ### shaped data, equality -/
theorem lay_ints : ∀ xs : List Int, PyData.canLayAll0 (xs.map PyData.int) = true
  | [] => by simp [PyData.canLayAll0]
  | x :: r => by rw [List.map_cons]; simp only [PyData.canLayAll0, PyData.canLay0, Bool.true_and]; exact lay_ints r
theorem dep_ints : ∀ xs : List Int, PyData.depthAll (xs.map PyData.int) ≤ 1
  | [] => by simp [PyData.depthAll]
  | x :: r => by rw [List.map_cons]; simp only [PyData.depthAll, PyData.depth]; have := dep_ints r; omega

inductive BinD : Operator → PyData → PyData → C → Prop
  | add {i j : Int} : BinD .Add (.int i) (.int j) (.dat (.int (i + j)))
  | sub {i j : Int} : BinD .Sub (.int i) (.int j) (.dat (.int (i - j)))
  | mul {i j : Int} (h : CMul i j) : BinD .Mult (.int i) (.int j) (.dat (.int (i * j)))
  | mod {i j : Int} (h : 0 < j) : BinD .Mod (.int i) (.int j) (.dat (.int (i % j)))
  | div {i j : Int} (h : 0 < j) (h2 : j < 1073741824) : BinD .FloorDiv (.int i) (.int j) (.dat (.int (i / j)))
  | pow {i j : Int} (h : CPow i j) : BinD .Pow (.int i) (.int j) (.dat (.int (i ^ j.toNat)))
  | cat {ds es : List PyData} (h : ds.length + es.length ≤ sizeLine) : BinD .Add (.tuple ds) (.tuple es) (.dat (.tuple (ds ++ es)))
  | catI {xs ys : List Int} (h : xs.length + ys.length ≤ sizeLine) : BinD .Add (tI xs) (tI ys) (.dat (tI (xs ++ ys)))
  | catI1 {xs : List Int} {i : Int} (h : xs.length + 1 ≤ sizeLine) : BinD .Add (tI xs) (.tuple [.int i]) (.dat (tI (xs ++ [i])))
  | cat1I {xs : List Int} {i : Int} (h : xs.length + 1 ≤ sizeLine) : BinD .Add (.tuple [.int i]) (tI xs) (.dat (tI (i :: xs)))
  | catT {xs ys : List (List Int)} (h : xs.length + ys.length ≤ sizeLine) : BinD .Add (tT xs) (tT ys) (.dat (tT (xs ++ ys)))
  | catT1 {xs : List (List Int)} {i : List Int} (h : xs.length + 1 ≤ sizeLine) : BinD .Add (tT xs) (.tuple [tI i]) (.dat (tT (xs ++ [i])))
  | str {x y : Str} (h : x.length + y.length ≤ sizeLine) : BinD .Add (.str x) (.str y) (.dat (.str (x ++ y)))
inductive CmpD : CmpOp → PyData → PyData → Bool → Prop
  | lt {i j : Int} : CmpD .Lt (.int i) (.int j) (decide (i < j))
  | le {i j : Int} : CmpD .LtE (.int i) (.int j) (decide (i ≤ j))
  | gt {i j : Int} : CmpD .Gt (.int i) (.int j) (decide (j < i))
  | ge {i j : Int} : CmpD .GtE (.int i) (.int j) (decide (j ≤ i))
  | eqI {i j : Int} : CmpD .Eq (.int i) (.int j) (decide (i = j))
  | neI {i j : Int} : CmpD .NotEq (.int i) (.int j) (!decide (i = j))
  | eqS {i j : Str} : CmpD .Eq (.str i) (.str j) (decide (i = j))
  | neS {i j : Str} : CmpD .NotEq (.str i) (.str j) (!decide (i = j))
inductive SeqD : PyData → Bool → List PyData → Prop
  | tup {ds : List PyData} : SeqD (.tuple ds) false ds
  | lst {ds : List PyData} : SeqD (.list ds) true ds
inductive IxD : List PyData → Int → PyData → Prop
  | nIn {xs : List Int} {i : Nat} (h2 : i < xs.length) : IxD (xs.map .int) (i : Int) (.int (xs.getD i 0))
  | nTn {xs : List (List Int)} {i : Nat} (h2 : i < xs.length) : IxD (xs.map tI) (i : Int) (tI (xs.getD i []))
  | nTTn {xs : List (List (List Int))} {i : Nat} (h2 : i < xs.length) : IxD (xs.map tT) (i : Int) (tT (xs.getD i []))
  | nTT {xs : List (List (List Int))} {i : Int} (h : 0 ≤ i) (h2 : i < xs.length) : IxD (xs.map tT) i (tT (xs.getD i.toNat []))
  | nI {xs : List Int} {i : Int} (h : 0 ≤ i) (h2 : i < xs.length) : IxD (xs.map .int) i (.int (xs.getD i.toNat 0))
  | nS {xs : List Str} {i : Int} (h : 0 ≤ i) (h2 : i < xs.length) : IxD (xs.map .str) i (.str (xs.getD i.toNat ⟨#[]⟩))
  | nT {xs : List (List Int)} {i : Int} (h : 0 ≤ i) (h2 : i < xs.length) : IxD (xs.map tI) i (tI (xs.getD i.toNat []))
  | nL2 {a b i : Int} (h : 0 ≤ i) (h2 : i < 2) : IxD [.int a, .int b] i (.int ([a, b].getD i.toNat 0))
  | nL3 {a b c i : Int} (h : 0 ≤ i) (h2 : i < 3) : IxD [.int a, .int b, .int c] i (.int ([a, b, c].getD i.toNat 0))
  | nL4 {a b c d i : Int} (h : 0 ≤ i) (h2 : i < 4) : IxD [.int a, .int b, .int c, .int d] i (.int ([a, b, c, d].getD i.toNat 0))
  | lit {ds : List PyData} {i : Int} {d : PyData} (h : atI ds i = some d) : IxD ds i d
section
variable {X : Cx} {e a b : Expr} {es : List Expr} {A : List C} {pos p p2 : Pos} {x : Str}
theorem ev_bin {op : Operator} {d1 d2 : PyData} {c : C} (h1 : Ev X A a (.dat d1)) (h2 : Ev X A b (.dat d2)) (h : BinD op d1 d2 c) : Ev X A (.BinOp a op b pos) c := by
  cases h with
  | add => exact ev_add h1 h2
  | sub => exact ev_sub h1 h2
  | mul h => exact ev_mul h1 h2 h
  | mod h => exact ev_mod h1 h2 h
  | div h h' => exact ev_div h1 h2 h h'
  | pow h => exact ev_pow h1 h2 h
  | cat h => exact ev_catT h1 h2 h
  | catI h => exact ev_eq (ev_catT h1 h2 (by simpa using h)) (by simp)
  | catI1 h => exact ev_eq (ev_catT h1 h2 (by simpa using h)) (by simp)
  | cat1I h => exact ev_eq (ev_catT h1 h2 (by simp; omega)) (by simp)
  | catT h => exact ev_eq (ev_catT h1 h2 (by simpa using h)) (by simp)
  | catT1 h => exact ev_eq (ev_catT h1 h2 (by simpa using h)) (by simp)
  | str h => exact ev_op op_add_str h1 h2 (bin_val fun I H v w s h1 h2 Q q => ⟨_, _, dp_str h1, dp_str h2, h, q _ (.str _)⟩)
theorem ev_cmpD {op : CmpOp} {d1 d2 : PyData} {v : Bool} (h1 : Ev X A a (.dat d1)) (h2 : Ev X A b (.dat d2)) (h : CmpD op d1 d2 v) : Ev X A (.Compare a [op] [b] pos) (.dat (.bool v)) := by
  cases h with
  | lt => exact ev_lt h1 h2
  | le => exact ev_le h1 h2
  | gt => exact ev_gt h1 h2
  | ge => exact ev_ge h1 h2
  | eqI => exact ev_eqI h1 h2
  | neI => exact ev_neI h1 h2
  | eqS => exact ev_eqS h1 h2
  | neS => exact ev_neS h1 h2
/-- a comparison by data -/
def CmpR (X : Cx) (op : CmpOp) (b : Expr) (d1 d2 : PyData) (v : Bool) : Prop := ∃ r : R2, OpR X (compareOp op) r ∧ Bin X r d1 d2 (.dat (.bool v)) ∧ behindInMarks op b = false
theorem cmpR_D {op : CmpOp} {d1 d2 : PyData} {v : Bool} (h : CmpD op d1 d2 v) : CmpR X op b d1 d2 v := by
  cases h with
  | lt => exact ⟨_, op_lt, bI0 fun _ => .bl _, nomark _⟩
  | le => exact ⟨_, op_le, bI0 fun _ => .bl _, nomark _⟩
  | gt => exact ⟨_, op_gt, bI0 fun _ => .bl _, nomark _⟩
  | ge => exact ⟨_, op_ge, bI0 fun _ => .bl _, nomark _⟩
  | eqI => exact ⟨_, op_eq, bin_val fun I H v w s h1 h2 Q q => by rw [dp_int h1, dp_int h2]; exact ⟨rfl, by rw [decV]; exact q _ (.bl _)⟩, nomark _⟩
  | neI => exact ⟨_, op_ne, bin_val fun I H v w s h1 h2 Q q => by rw [dp_int h1, dp_int h2]; exact ⟨rfl, by rw [decV]; exact q _ (.bl _)⟩, nomark _⟩
  | eqS => exact ⟨_, op_eq, bin_val fun I H v w s h1 h2 Q q => by rw [dp_str h1, dp_str h2]; exact ⟨rfl, by rw [decS]; exact q _ (.bl _)⟩, nomark _⟩
  | neS => exact ⟨_, op_ne, bin_val fun I H v w s h1 h2 Q q => by rw [dp_str h1, dp_str h2]; exact ⟨rfl, by rw [decS]; exact q _ (.bl _)⟩, nomark _⟩
theorem cmpR_eqD {d1 d2 : PyData} {k : Nat} (hr : Room k X.A) (s1 : SeqAt.shaped d1 = true) (s2 : SeqAt.shaped d2 = true) : CmpR X .Eq b d1 d2 (PyData.eqv d1 d2) :=
  ⟨_, op_eqD hr.units, bin_val fun I H v w s h1 h2 Q q => ⟨d1, d2, (dp_mono s h1).kit s1, (dp_mono s h2).kit s2, s1, s2, q _ (.bl _)⟩, nomark _⟩
theorem cmpR_neD {d1 d2 : PyData} {k : Nat} (hr : Room k X.A) (s1 : SeqAt.shaped d1 = true) (s2 : SeqAt.shaped d2 = true) : CmpR X .NotEq b d1 d2 (!PyData.eqv d1 d2) :=
  ⟨_, op_neD hr.units, bin_val fun I H v w s h1 h2 Q q => ⟨d1, d2, (dp_mono s h1).kit s1, (dp_mono s h2).kit s2, s1, s2, q _ (.bl _)⟩, nomark _⟩
theorem CmpR.eq {op : CmpOp} {d1 d2 : PyData} {v u : Bool} (h : CmpR X op b d1 d2 v) (e : v = u) : CmpR X op b d1 d2 u := e ▸ h
theorem ev_cmpR {op : CmpOp} {d1 d2 : PyData} {v : Bool} (h1 : Ev X A a (.dat d1)) (h2 : Ev X A b (.dat d2)) (h : CmpR X op b d1 d2 v) : Ev X A (.Compare a [op] [b] pos) (.dat (.bool v)) := by
  obtain ⟨r, ho, hb, hm⟩ := h
  exact ev_cmp ho h1 h2 hb hm
theorem et_cmpR {op : CmpOp} {d1 d2 : PyData} {v : Bool} (h1 : Ev X A a (.dat d1)) (h2 : Ev X A b (.dat d2)) (h : CmpR X op b d1 d2 v) : Et X A (.Compare a [op] [b] pos) v := by
  obtain ⟨r, ho, hb, hm⟩ := h
  exact fun I0 H0 σ I H rl Q q => wt_of (pt_cmpR ho wx_pe wx_pe hm) (bin_run h1 h2 hb rl fun u I1 H1 g hu => ⟨v, dp_bool hu, q I1 H1 g⟩)
theorem evs_dat {d : PyData} {k : Bool} {ds : List PyData} (h : Ev X A e (.dat d)) (hs : SeqD d k ds) : EvS X A e k ds := by
  cases hs with
  | tup => exact evs_tup h
  | lst => exact evs_lst h
theorem ev_atD {k : Bool} {ds : List PyData} {i : Int} {d : PyData} (h1 : EvS X A a k ds) (h2 : Ev X A b (.dat (.int i))) (h : IxD ds i d) (hs : PlainIx b) : Ev X A (.Subscript a b pos) (.dat d) := by
  refine ev_at h1 h2 ?_ hs
  have key : ∀ {α : Type} (f : α → PyData) (xs : List α) (z : α), 0 ≤ i → i < xs.length → atI (xs.map f) i = some (f (xs.getD i.toNat z)) := fun f xs z h0 h1 => by
    have e1 : ((i.toNat : Nat) : Int) = i := Int.toNat_of_nonneg h0
    have h2 : i.toNat < xs.length := by omega
    rw [← e1]
    refine atI_nat ?_
    rw [List.getElem?_map, e1, List.getElem?_eq_getElem h2, List.getD_eq_getElem?_getD, List.getElem?_eq_getElem h2]
    rfl
  cases h with
  | nIn h1 => exact key .int _ 0 (by omega) (by omega)
  | nTn h1 => exact key tI _ [] (by omega) (by omega)
  | nTTn h1 => exact key tT _ [] (by omega) (by omega)
  | nTT h0 h1 => exact key tT _ [] h0 h1
  | nI h0 h1 => exact key .int _ 0 h0 h1
  | nS h0 h1 => exact key .str _ _ h0 h1
  | nT h0 h1 => exact key tI _ [] h0 h1
  | nL2 h0 h1 => exact key .int [_, _] 0 h0 h1
  | nL3 h0 h1 => exact key .int [_, _, _] 0 h0 h1
  | nL4 h0 h1 => exact key .int [_, _, _, _] 0 h0 h1
  | lit h => exact h
theorem s1_retE {c c' : C} (he : Ev X A e c) (h : c = c') : S1 X A (.Return (some e) pos) (.rt c') := h ▸ s1_ret he
theorem ei_dat {tg : Expr} {d : PyData} {k : Bool} {ds : List PyData} (h : Ev X A e (.dat d)) (hs : SeqD d k ds) : EvI X A tg e ds := by
  cases hs with
  | tup => exact ei_tup h
  | lst => exact ei_list h
/-- not a < b < c -/
theorem ev_ifExp {v : Bool} {c : Expr} {o : C} (h : Et X A c v) (h1 : v = true → Ev X A a o) (h2 : v = false → Ev X A b o) : Ev X A (.IfExp c a b pos) o := fun I0 H0 σ I H rl Q q =>
  wx_of (pe_ifExp wt_pe wx_pe wx_pe) (h I0 H0 σ I H rl _ fun I1 H1 g => by
    cases v with
    | true => exact iteT (h1 rfl I0 H0 σ I1 H1 (rl.grow g) Q fun y I2 H2 g2 hy => q y I2 H2 (g.trans g2) (hy.back g.hh))
    | false => exact iteF (h2 rfl I0 H0 σ I1 H1 (rl.grow g) Q fun y I2 H2 g2 hy => q y I2 H2 (g.trans g2) (hy.back g.hh)))
/-- a < b < c and the like -/
theorem ev_chain {o1 o2 : CmpOp} {i j k : Int} {v u : Bool} {r1 r2 : R2} {c : Expr} (h1 : Ev X A a (.dat (.int i))) (h2 : Ev X A b (.dat (.int j))) (h3 : Ev X A c (.dat (.int k))) (d1 : OpR X (compareOp o1) r1) (d2 : OpR X (compareOp o2) r2)
    (b1 : Bin X r1 (.int i) (.int j) (.dat (.bool v))) (b2 : Bin X r2 (.int j) (.int k) (.dat (.bool u))) (hm : lastMarks [o1, o2] [b, c] = false) : Ev X A (.Compare a [o1, o2] [b, c] pos) (.dat (.bool (v && u))) := fun I0 H0 σ I H rl Q q => by
  refine wx_of (pe_chain d1 d2 wx_pe wx_pe wx_pe hm) ?_
  refine h1 I0 H0 σ I H rl _ fun x1 I1 H1 g1 hx => h2 I0 H0 σ I1 H1 (rl.grow g1) _ fun x2 I2 H2 g2 hy => b1 I2 H2 x1 x2 g2.ih (dp_mono g2.ii hx) hy _ fun z I3 H3 g3 hz => ?_
  refine ⟨v, dp_bool hz, ?_⟩
  have g := (g1.trans g2).trans g3
  cases v with
  | true => exact iteT (h3 I0 H0 σ I3 H3 (rl.grow g) _ fun x3 I4 H4 g4 hw => b2 I4 H4 x2 x3 g4.ih (dp_mono (g3.trans g4).ii hy) hw _ fun y I5 H5 g5 hy' => q y I5 H5 ((g.trans g4).trans g5) hy')
  | false => exact iteF (q _ I3 H3 g (Dp.bl false))
theorem et_chain {o1 o2 : CmpOp} {i j k : Int} {v u : Bool} {c : Expr} (h1 : Ev X A a (.dat (.int i))) (h2 : Ev X A b (.dat (.int j))) (h3 : Ev X A c (.dat (.int k))) (d1 : CmpR X o1 b (.int i) (.int j) v) (d2 : CmpR X o2 c (.int j) (.int k) u) (hm : lastMarks [o1, o2] [b, c] = false := by with_unfolding_all rfl) :
    Et X A (.Compare a [o1, o2] [b, c] pos) (v && u) := fun I0 H0 σ I H rl Q q => by
  obtain ⟨r1, p1, b1, _⟩ := d1
  obtain ⟨r2, p2, b2, _⟩ := d2
  refine wt_of (pt_chain p1 p2 wx_pe wx_pe wx_pe hm) ?_
  refine h1 I0 H0 σ I H rl _ fun x1 I1 H1 g1 hx => h2 I0 H0 σ I1 H1 (rl.grow g1) _ fun x2 I2 H2 g2 hy => b1 I2 H2 x1 x2 g2.ih (dp_mono g2.ii hx) hy _ fun z I3 H3 g3 hz => ?_
  refine ⟨v, dp_bool hz, ?_⟩
  have g := (g1.trans g2).trans g3
  cases v with
  | true => exact iteT (h3 I0 H0 σ I3 H3 (rl.grow g) _ fun x3 I4 H4 g4 hw => b2 I4 H4 x2 x3 g4.ih (dp_mono (g3.trans g4).ii hy) hw _ fun y I5 H5 g5 hy' => ⟨u, dp_bool hy', q I5 H5 ((g.trans g4).trans g5)⟩)
  | false => exact iteF ⟨false, rfl, q I3 H3 g⟩
theorem ev_chainR {o1 o2 : CmpOp} {i j k : Int} {v u : Bool} {c : Expr} (h1 : Ev X A a (.dat (.int i))) (h2 : Ev X A b (.dat (.int j))) (h3 : Ev X A c (.dat (.int k))) (d1 : CmpR X o1 b (.int i) (.int j) v) (d2 : CmpR X o2 c (.int j) (.int k) u) (hm : lastMarks [o1, o2] [b, c] = false := by with_unfolding_all rfl) :
    Ev X A (.Compare a [o1, o2] [b, c] pos) (.dat (.bool (v && u))) := by
  obtain ⟨r1, p1, b1, _⟩ := d1
  obtain ⟨r2, p2, b2, _⟩ := d2
  exact ev_chain h1 h2 h3 p1 p2 b1 b2 hm
end
end LR

set_option Elab.async false
set_option linter.all false
set_option maxRecDepth 100000
set_option maxHeartbeats 4000000
/-! The layer LR, part g: the rules over a context of which the names and the scope are told. -/
namespace LR
open PySem PySem.Spec PyProof.Rows L2

/-- what is told of a context -/
structure XF (P : Program) (w : World) (K : PySem.W.Frag) (mg : Str → Option Value) (base : Heap) (N : List Str) (sc : Scope) (k : Nat) (X : Cx) : Prop where
  eP : X.prog = P
  eW : X.w = w
  eK : X.K = K
  eM : X.mg = mg
  eB : X.base = base
  eN : X.N = N
  eS : X.env.scope = sc
  calm : X.calm = true
  nd : N.Nodup
  room : Room k X.A
  pass : PassesOwn (model X.prog X.w) X.A X.env X.xe
/-- .. of a def's own -/
structure XT (X : Cx) : Prop where
  stack : X.stack = X.env :: X.outer
  frame : X.env.frame = some X.env.locals
  fn : ∀ x, X.fn x = true
abbrev GlS (sc : Scope) (x : Str) : Prop := sc.names.lookup x = some .globalImplicit
instance {sc : Scope} {x : Str} : Decidable (Vis sc x) := by unfold Vis; infer_instance
instance {sc : Scope} {x : Str} : Decidable (L2.Loc sc x) := by unfold L2.Loc; infer_instance
section
variable {P : Program} {w : World} {K : PySem.W.Frag} {mg : Str → Option Value} {base : Heap} {N : List Str} {sc : Scope} {k : Nat}
variable {X : Cx} {e a b : Expr} {es : List Expr} {A : List C} {pos p p2 : Pos} {x : Str}
variable (hX : XF P w K mg base N sc k X)
include hX
theorem XF.gl (h : GlS sc x) : Gl X x := by unfold Gl Env.kindOf; rw [hX.eS]; exact h
theorem XF.vis (h : Vis sc x) : Vis X.env.scope x := by rw [hX.eS]; exact h
theorem XF.loc (h : L2.Loc sc x) : L2.Loc X.env.scope x := by rw [hX.eS]; exact h
theorem XF.ndX : X.N.Nodup := by rw [hX.eN]; exact hX.nd
theorem XF.fnX {j : Nat} {y : Str} {ps : List Str} {R : List PyData → Res → Prop} (G : Fn P w K mg base j y ps R) : Fn X.prog X.w X.K X.mg X.base j y ps R := by
  rw [hX.eP, hX.eW, hX.eK, hX.eM, hX.eB]; exact G
theorem nmF (i : Nat) {d : PyData} (hN : N[i]? = some x) (hA : A[i]? = some (.dat d)) (hv : Vis sc x) (hd : (x == ("__debug__" : Str)) = false) (hcd : (x == ("__classdict__" : Str)) = false) : Ev X A (.Name x pos) (.dat d) :=
  ev_name i (by rw [hX.eN]; exact hN) hA (hX.vis hv) hd hcd
theorem ownF (i : Nat) {ds : List PyData} (hN : N[i]? = some x) (hA : A[i]? = some (.own (.lst ds))) (hv : Vis sc x) (hd : (x == ("__debug__" : Str)) = false) (hcd : (x == ("__classdict__" : Str)) = false) : EvS X A (.Name x pos) true ds :=
  evs_own i (by rw [hX.eN]; exact hN) hA (hX.vis hv) hd hcd
theorem ownlF (i : Nat) {ds : List PyData} (hN : N[i]? = some x) (hA : A[i]? = some (.own (.lst ds))) (hv : Vis sc x) (hd : (x == ("__debug__" : Str)) = false) (hcd : (x == ("__classdict__" : Str)) = false) : EvL X A (.Name x pos) ds :=
  evl_own i (by rw [hX.eN]; exact hN) hA (hX.vis hv) hd hcd
theorem callF {j : Nat} {ps : List Str} {R : List PyData → Res → Prop} {ds : List PyData} {c : C} (G : Fn P w K mg base j x ps R) (hj : j ≤ k) (hg : GlS sc x) (ha : EvA X A (e :: es) ds) (h : R ds (.ok c)) (hdb : (x == ("__debug__" : Str)) = false)
    (he : starEach (e :: es) X.env = (false, eval e X.env) :: starEach es X.env := by rfl) (hpl : (backTo pos (starEach es X.env)).any (·.1) = false := by rfl) : Ev X A (.Call (.Name x p) (e :: es) [] pos) c :=
  ev_call (hX.fnX G) (hX.room.mono hj) (hX.gl hg) ha h hdb he hpl
theorem callXF {j : Nat} {ps : List Str} {R : List PyData → Res → Prop} {ds : List PyData} {y : Str} (G : Fn P w K mg base j x ps R) (hj : j ≤ k) (hg : GlS sc x) (ha : EvA X A (e :: es) ds) (h : R ds (.ex y)) (hdb : (x == ("__debug__" : Str)) = false)
    (he : starEach (e :: es) X.env = (false, eval e X.env) :: starEach es X.env := by rfl) (hpl : (backTo pos (starEach es X.env)).any (·.1) = false := by rfl) : EvX X A (.Call (.Name x p) (e :: es) [] pos) y :=
  evx_call (hX.fnX G) (hX.room.mono hj) (hX.gl hg) ha h hdb he hpl
theorem lenF {v : Bool} {ds : List PyData} (hg : GlS sc "len") (hm : mg "len" = none) (h : EvS X A e v ds) (hs : starEach (e :: []) X.env = (false, eval e X.env) :: starEach [] X.env := by rfl) : Ev X A (.Call (.Name "len" p) [e] [] pos) (.dat (.int ds.length)) :=
  ev_len (hX.gl hg) (by rw [hX.eM]; exact hm) h hs
theorem tupleF {ds : List PyData} (hg : GlS sc "tuple") (hm : mg "tuple" = none) (h : EvS X A e true ds) (hs : starEach (e :: []) X.env = (false, eval e X.env) :: starEach [] X.env := by rfl) : Ev X A (.Call (.Name "tuple" p) [e] [] pos) (.dat (.tuple ds)) :=
  ev_tuple (hX.gl hg) (by rw [hX.eM]; exact hm) h (hs := hs)
theorem tupleTF {ds : List PyData} (hg : GlS sc "tuple") (hm : mg "tuple" = none) (h : Ev X A e (.dat (.tuple ds))) (hs : starEach (e :: []) X.env = (false, eval e X.env) :: starEach [] X.env := by rfl) : Ev X A (.Call (.Name "tuple" p) [e] [] pos) (.dat (.tuple ds)) :=
  ev_tupleT (hX.gl hg) (by rw [hX.eM]; exact hm) h (hs := hs)
theorem listF {v : Bool} {ds : List PyData} (hg : GlS sc "list") (hm : mg "list" = none) (h : EvS X A e v ds) (hs : starEach (e :: []) X.env = (false, eval e X.env) :: starEach [] X.env := by rfl) : Ev X A (.Call (.Name "list" p) [e] [] pos) (.own (.lst ds)) :=
  ev_list (hX.gl hg) (by rw [hX.eM]; exact hm) h (hs := hs)
theorem intBF {v : Bool} (hg : GlS sc "int") (hm : mg "int" = none) (h : Ev X A e (.dat (.bool v))) (hs : starEach (e :: []) X.env = (false, eval e X.env) :: starEach [] X.env := by rfl) : Ev X A (.Call (.Name "int" p) [e] [] pos) (.dat (.int (if v then 1 else 0))) :=
  ev_intB (hX.gl hg) (by rw [hX.eM]; exact hm) h (hs := hs)
theorem max2F {i j : Int} (hg : GlS sc "max") (hm : mg "max" = none) (h : EvA X A [e, b] [.int i, .int j]) (hs : starEach (e :: [b]) X.env = (false, eval e X.env) :: starEach [b] X.env := by rfl) (hpl : (backTo pos (starEach [b] X.env)).any (·.1) = false := by rfl) :
    Ev X A (.Call (.Name "max" p) [e, b] [] pos) (.dat (.int (max i j))) := ev_max2 hX.calm (hX.gl hg) (by rw [hX.eM]; exact hm) h (hs := hs) (hpl := hpl)
theorem min2F {i j : Int} (hg : GlS sc "min") (hm : mg "min" = none) (h : EvA X A [e, b] [.int i, .int j]) (hs : starEach (e :: [b]) X.env = (false, eval e X.env) :: starEach [b] X.env := by rfl) (hpl : (backTo pos (starEach [b] X.env)).any (·.1) = false := by rfl) :
    Ev X A (.Call (.Name "min" p) [e, b] [] pos) (.dat (.int (min i j))) := ev_min2 hX.calm (hX.gl hg) (by rw [hX.eM]; exact hm) h (hs := hs) (hpl := hpl)
theorem sumF {ns : List Int} (hg : GlS sc "sum") (hm : mg "sum" = none) (h : EvS X A e true (ns.map PyData.int)) (hs : starEach (e :: []) X.env = (false, eval e X.env) :: starEach [] X.env := by rfl) : Ev X A (.Call (.Name "sum" p) [e] [] pos) (.dat (.int ns.sum)) :=
  ev_sum hX.calm (hX.gl hg) (by rw [hX.eM]; exact hm) h (hs := hs)
theorem anyF {bs : List Bool} (hg : GlS sc "any") (hm : mg "any" = none) (h : EvS X A e true (bs.map PyData.bool)) (hs : starEach (e :: []) X.env = (false, eval e X.env) :: starEach [] X.env := by rfl) : Ev X A (.Call (.Name "any" p) [e] [] pos) (.dat (.bool (bs.any id))) :=
  ev_any hX.calm (hX.gl hg) (by rw [hX.eM]; exact hm) h (hs := hs)
theorem allF {bs : List Bool} (hg : GlS sc "all") (hm : mg "all" = none) (h : EvS X A e true (bs.map PyData.bool)) (hs : starEach (e :: []) X.env = (false, eval e X.env) :: starEach [] X.env := by rfl) : Ev X A (.Call (.Name "all" p) [e] [] pos) (.dat (.bool (bs.all id))) :=
  ev_all hX.calm (hX.gl hg) (by rw [hX.eM]; exact hm) h (hs := hs)
theorem maxLF {ns : List Int} {m : Int} (hg : GlS sc "max") (hm : mg "max" = none) (h : EvS X A e true (ns.map PyData.int)) (h1 : m ∈ ns) (h2 : ∀ y ∈ ns, y ≤ m) (hs : starEach (e :: []) X.env = (false, eval e X.env) :: starEach [] X.env := by rfl) :
    Ev X A (.Call (.Name "max" p) [e] [] pos) (.dat (.int m)) := ev_maxL hX.calm (hX.gl hg) (by rw [hX.eM]; exact hm) h h1 h2 (hs := hs)
theorem minLF {ns : List Int} {m : Int} (hg : GlS sc "min") (hm : mg "min" = none) (h : EvS X A e true (ns.map PyData.int)) (h1 : m ∈ ns) (h2 : ∀ y ∈ ns, m ≤ y) (hs : starEach (e :: []) X.env = (false, eval e X.env) :: starEach [] X.env := by rfl) :
    Ev X A (.Call (.Name "min" p) [e] [] pos) (.dat (.int m)) := ev_minL hX.calm (hX.gl hg) (by rw [hX.eM]; exact hm) h h1 h2 (hs := hs)
theorem strIF {i : Int} (hg : GlS sc "str") (hm : mg "str" = none) (h : Ev X A e (.dat (.int i))) (hz : i.natAbs.log2 < 1920) (hs : starEach (e :: []) X.env = (false, eval e X.env) :: starEach [] X.env := by rfl) : Ev X A (.Call (.Name "str" p) [e] [] pos) (.dat (.str (toString i))) :=
  ev_strI (hX.gl hg) (by rw [hX.eM]; exact hm) h hz (hs := hs)
theorem isiF {T : String} {d : PyData} {r : Bool} (hg : GlS sc "isinstance") (hm : mg "isinstance" = none) (h1 : Ev X A e (.dat d)) (hgT : GlS sc (Str.ofString T)) (hmT : mg (Str.ofString T) = none) (hbT : bootBuiltins (Str.ofString T) = some (.type T)) (hk : kitB (tyD d) T = some r)
    (hn : Str.ofString T ≠ "__name__") (hdb : (Str.ofString T == ("__debug__" : Str)) = false) (hs : starEach (e :: [.Name (Str.ofString T) p2]) X.env = (false, eval e X.env) :: starEach [.Name (Str.ofString T) p2] X.env := by rfl) :
    Ev X A (.Call (.Name "isinstance" p) [e, .Name (Str.ofString T) p2] [] pos) (.dat (.bool r)) :=
  ev_isi (hX.gl hg) (by rw [hX.eM]; exact hm) h1 rfl (hX.gl hgT) (by rw [hX.eM]; exact hmT) hbT hk hn (hs := hs) (hdb := hdb)
theorem rangeF {tg : Expr} {n : Int} (hg : GlS sc "range") (hm : mg "range" = none) (h : Ev X A a (.dat (.int n))) (h1 : -1000000 ≤ n) (h2 : n ≤ 1000000) (hs : starEach (a :: []) X.env = (false, eval a X.env) :: starEach [] X.env := by rfl) :
    EvI X A tg (.Call (.Name "range" p) [a] [] pos) ((List.range n.toNat).map fun i : Nat => .int (i : Int)) := ei_range (hX.gl hg) (by rw [hX.eM]; exact hm) h h1 h2 hs
theorem range2F {tg : Expr} {lo hi : Int} (hg : GlS sc "range") (hm : mg "range" = none) (h : EvA X A [a, b] [.int lo, .int hi]) (h1 : -1000000 ≤ lo) (h2 : lo ≤ 1000000) (h3 : -1000000 ≤ hi) (h4 : hi ≤ 1000000)
    (hs : starEach [a, b] X.env = [(false, eval a X.env), (false, eval b X.env)] := by rfl) (hs2 : starEach [b] X.env = [(false, eval b X.env)] := by rfl) :
    EvI X A tg (.Call (.Name "range" p) [a, b] [] pos) ((List.range (hi - lo).toNat).map fun i : Nat => .int (lo + i)) := ei_range2 (hX.gl hg) (by rw [hX.eM]; exact hm) h h1 h2 h3 h4 hs hs2
theorem eqF {d1 d2 : PyData} (h1 : Ev X A a (.dat d1)) (h2 : Ev X A b (.dat d2)) (s1 : SeqAt.shaped d1 = true) (s2 : SeqAt.shaped d2 = true) : Ev X A (.Compare a [.Eq] [b] pos) (.dat (.bool (PyData.eqv d1 d2))) := ev_eqD hX.room h1 h2 s1 s2
theorem neF {d1 d2 : PyData} (h1 : Ev X A a (.dat d1)) (h2 : Ev X A b (.dat d2)) (s1 : SeqAt.shaped d1 = true) (s2 : SeqAt.shaped d2 = true) : Ev X A (.Compare a [.NotEq] [b] pos) (.dat (.bool (!PyData.eqv d1 d2))) := ev_neD hX.room h1 h2 s1 s2
theorem setF (hT : XT X) (j : Nat) {c : C} {pos' : Pos} (hN : N[j]? = some x) (hx : L2.Loc sc x) (he : Ev X A e c) (hj : A[j]?.isSome = true) (hs : swapsWith e (some (.Name x pos')) pos.line X.env = pure false := by rfl) : S1 X A (.Assign [.Name x pos'] e pos) (.nx (A.set j c)) :=
  s1_set j hX.ndX (by rw [hX.eN]; exact hN) (hX.loc hx) he hj rfl hs (.inl (hT.fn _))
theorem appF (j : Nat) {ds : List PyData} {d : PyData} {p3 p4 : Pos} (hN : N[j]? = some x) (hA : A[j]? = some (.own (.lst ds))) (hv : Vis sc x) (he : Ev X A e (.dat d)) (hz : ds.length < sizeLine) (hd : (x == ("__debug__" : Str)) = false) (hcd : (x == ("__classdict__" : Str)) = false)
    (hs : starEach (e :: []) X.env = (false, eval e X.env) :: starEach [] X.env := by rfl) (hpl : ((backTo p3 (starEach (e :: []) X.env)).all (fun x => !x.1) && (backToKw p3 (keywordEach [] X.env)).all (fun x => x.1.isSome) && decide (([e] : List Expr).length + ([] : List Keyword).length + (if ([] : List Keyword).isEmpty then 0 else 1) < 30)) = true := by rfl) (hline : (p2.endLine == p3.line) = true := by rfl)
    (hsw : swapsWith (.Call (.Attribute (.Name x p) "append" p2) [e] [] p3) none p4.line X.env = pure false := by rfl) : S1 X A (.Expr (.Call (.Attribute (.Name x p) "append" p2) [e] [] p3) p4) (.nx (A.set j (.own (.lst (ds ++ [d]))))) :=
  s1_append j (by rw [hX.eN]; exact hN) hA (hX.vis hv) he hz rfl hd hcd hs hpl hline hsw
theorem retOF (j : Nat) {ob : Ob} (hN : N[j]? = some x) (hA : A[j]? = some (.own ob)) (hv : Vis sc x) (hd : (x == ("__debug__" : Str)) = false) (hcd : (x == ("__classdict__" : Str)) = false) : S1 X A (.Return (some (.Name x p)) pos) (.rt (.own ob)) :=
  s1_retO j (by rw [hX.eN]; exact hN) hA (hX.vis hv) hd hcd
theorem tgF (hT : XT X) (j : Nat) (hN : N[j]? = some x) (hx : L2.Loc sc x) : PG X (.Name x pos) (gName j) := pg_name hX.ndX (by rw [hX.eN]; exact hN) (hX.loc hx) (.inl (hT.fn _))
theorem tgB (j : Nat) (hN : N[j]? = some x) (hx : sc.names.lookup x = some .local) : PG X (.Name x pos) (gName j) := pg_name hX.ndX (by rw [hX.eN]; exact hN) (hX.loc (.inl hx)) (.inr (by rw [hX.eS]; exact hx))
/-- for x in ..: over a list, a tuple, all of it -/
theorem forL {α : Type} {body : List Stmt} {tg : Expr} {src : List PyData} (j : Nat) (xs : List α) (enc : α → PyData) (inv : Nat → List C) (hi : EvI X A tg e src) (hsrc : src = xs.map enc) (hg : PG X tg (gName j)) (h0 : LeA A (inv 0)) (hj : ∀ i, (inv i)[j]?.isSome = true)
    (hb : ∀ (i : Nat) (h : i < xs.length), Sm X ((inv i).set j (.dat (enc xs[i]))) body (.nx (inv (i + 1)))) (hs : ∀ x, foldedSetIterable e X.env x = pure x := by intro _; rfl) : S1 X A (.For tg e body [] pos) (.nx (inv xs.length)) := by
  subst hsrc
  refine s1_for hX.pass hX.calm hi hg tg_name inv xs.length (by simp) h0 (fun i d hi hd => ?_) (.inl ⟨by simp, rfl⟩) hs
  rw [List.getElem?_map, List.getElem?_eq_getElem hi] at hd
  cases hd
  exact ⟨_, ⟨hj i, rfl⟩, hb i hi⟩
/-- .. left at the turn n -/
theorem forLx {α : Type} {body : List Stmt} {tg : Expr} {src : List PyData} {o o' : Out} (j : Nat) (xs : List α) (enc : α → PyData) (inv : Nat → List C) (n : Nat) (hn : n < xs.length) (hi : EvI X A tg e src) (hsrc : src = xs.map enc) (hg : PG X tg (gName j)) (h0 : LeA A (inv 0)) (hj : ∀ i, (inv i)[j]?.isSome = true)
    (hb : ∀ (i : Nat) (h : i < xs.length), i < n → Sm X ((inv i).set j (.dat (enc xs[i]))) body (.nx (inv (i + 1)))) (hx : Sm X ((inv n).set j (.dat (enc xs[n]))) body o') (ho : ExitOf o' o) (hs : ∀ x, foldedSetIterable e X.env x = pure x := by intro _; rfl) : S1 X A (.For tg e body [] pos) o := by
  subst hsrc
  refine s1_for hX.pass hX.calm hi hg tg_name inv n (by simp; omega) h0 (fun i d hi hd => ?_) (.inr ⟨_, _, o', ?_, ⟨hj n, rfl⟩, hx, ho⟩) hs
  · have hi2 : i < xs.length := by omega
    rw [List.getElem?_map, List.getElem?_eq_getElem hi2] at hd
    cases hd
    exact ⟨_, ⟨hj i, rfl⟩, hb i hi2 hi⟩
  · rw [List.getElem?_map, List.getElem?_eq_getElem hn]; rfl
theorem forN {body : List Stmt} {tg : Expr} {n : Nat} {src : List PyData} (g : Nat → PyData) (j : Nat) (inv : Nat → List C) (hi : EvI X A tg e src) (hsrc : src = (List.range n).map g) (hg : PG X tg (gName j)) (h0 : LeA A (inv 0)) (hj : ∀ i, (inv i)[j]?.isSome = true)
    (hb : ∀ (i : Nat), i < n → Sm X ((inv i).set j (.dat (g i))) body (.nx (inv (i + 1)))) (hs : ∀ x, foldedSetIterable e X.env x = pure x := by intro _; rfl) : S1 X A (.For tg e body [] pos) (.nx (inv n)) := by
  subst hsrc
  refine s1_for hX.pass hX.calm hi hg tg_name inv n (by simp) h0 (fun i d hi hd => ?_) (.inl ⟨by simp, rfl⟩) hs
  rw [List.getElem?_map, List.getElem?_range hi] at hd
  cases hd
  exact ⟨_, ⟨hj i, rfl⟩, hb i hi⟩
theorem forR0 {body : List Stmt} {tg : Expr} {n : Nat} {src : List PyData} (j : Nat) (inv : Nat → List C) (hi : EvI X A tg e src) (hsrc : src = (List.range n).map fun i : Nat => .int (i : Int)) (hg : PG X tg (gName j)) (h0 : LeA A (inv 0)) (hj : ∀ i, (inv i)[j]?.isSome = true)
    (hb : ∀ (i : Nat), i < n → Sm X ((inv i).set j (.dat (.int (i : Int)))) body (.nx (inv (i + 1)))) (hs : ∀ x, foldedSetIterable e X.env x = pure x := by intro _; rfl) : S1 X A (.For tg e body [] pos) (.nx (inv n)) := by
  subst hsrc
  refine s1_for hX.pass hX.calm hi hg tg_name inv n (by simp) h0 (fun i d hi hd => ?_) (.inl ⟨by simp, rfl⟩) hs
  rw [List.getElem?_map, List.getElem?_range hi] at hd
  cases hd
  exact ⟨_, ⟨hj i, rfl⟩, hb i hi⟩
/-- for k in range(n) -/
theorem forR {body : List Stmt} {tg : Expr} {n : Nat} {lo : Int} {src : List PyData} (j : Nat) (inv : Nat → List C) (hi : EvI X A tg e src) (hsrc : src = (List.range n).map fun i : Nat => .int (lo + i)) (hg : PG X tg (gName j)) (h0 : LeA A (inv 0)) (hj : ∀ i, (inv i)[j]?.isSome = true)
    (hb : ∀ (i : Nat), i < n → Sm X ((inv i).set j (.dat (.int (lo + i)))) body (.nx (inv (i + 1)))) (hs : ∀ x, foldedSetIterable e X.env x = pure x := by intro _; rfl) : S1 X A (.For tg e body [] pos) (.nx (inv n)) := by
  subst hsrc
  refine s1_for hX.pass hX.calm hi hg tg_name inv n (by simp) h0 (fun i d hi hd => ?_) (.inl ⟨by simp, rfl⟩) hs
  rw [List.getElem?_map, List.getElem?_range hi] at hd
  cases hd
  exact ⟨_, ⟨hj i, rfl⟩, hb i hi⟩
theorem forRx {body : List Stmt} {tg : Expr} {m : Nat} {lo : Int} {src : List PyData} {o o' : Out} (j : Nat) (inv : Nat → List C) (n : Nat) (hn : n < m) (hi : EvI X A tg e src) (hsrc : src = (List.range m).map fun i : Nat => .int (lo + i)) (hg : PG X tg (gName j)) (h0 : LeA A (inv 0)) (hj : ∀ i, (inv i)[j]?.isSome = true)
    (hb : ∀ (i : Nat), i < n → Sm X ((inv i).set j (.dat (.int (lo + i)))) body (.nx (inv (i + 1)))) (hx : Sm X ((inv n).set j (.dat (.int (lo + n)))) body o') (ho : ExitOf o' o) (hs : ∀ x, foldedSetIterable e X.env x = pure x := by intro _; rfl) : S1 X A (.For tg e body [] pos) o := by
  subst hsrc
  refine s1_for hX.pass hX.calm hi hg tg_name inv n (by simp; omega) h0 (fun i d hi hd => ?_) (.inr ⟨_, _, o', ?_, ⟨hj n, rfl⟩, hx, ho⟩) hs
  · rw [List.getElem?_map, List.getElem?_range (by omega)] at hd
    cases hd
    exact ⟨_, ⟨hj i, rfl⟩, hb i hi⟩
  · rw [List.getElem?_map, List.getElem?_range hn]; rfl
theorem whileF {c : Expr} {body : List Stmt} (inv : Nat → List C) (n : Nat) (h0 : LeA A (inv 0)) (hb : ∀ i, i < n → Et X (inv i) c true ∧ Sm X (inv i) body (.nx (inv (i + 1)))) (he : Et X (inv n) c false) : S1 X A (.While c body [] pos) (.nx (inv n)) :=
  s1_while hX.pass inv n h0 hb (.inl ⟨he, rfl⟩)
/-- .. its test told once for all turns -/
theorem whileV {c : Expr} {body : List Stmt} (inv : Nat → List C) (n : Nat) (v : Nat → Bool) (h0 : LeA A (inv 0)) (ht : ∀ i, i ≤ n → Et X (inv i) c (v i)) (hv : ∀ i, i < n → v i = true) (hn : v n = false) (hb : ∀ i, i < n → Sm X (inv i) body (.nx (inv (i + 1)))) : S1 X A (.While c body [] pos) (.nx (inv n)) :=
  s1_while hX.pass inv n h0 (fun i hi => ⟨hv i hi ▸ ht i (Nat.le_of_lt hi), hb i hi⟩) (.inl ⟨hn ▸ ht n (Nat.le_refl n), rfl⟩)
theorem whileFx {c : Expr} {body : List Stmt} {o o' : Out} (inv : Nat → List C) (n : Nat) (h0 : LeA A (inv 0)) (hb : ∀ i, i < n → Et X (inv i) c true ∧ Sm X (inv i) body (.nx (inv (i + 1)))) (he : Et X (inv n) c true) (hx : Sm X (inv n) body o') (ho : ExitOf o' o) : S1 X A (.While c body [] pos) o :=
  s1_while hX.pass inv n h0 hb (.inr ⟨o', he, hx, ho⟩)
/-- the context of a comprehension's block -/
theorem XF.blk {scope : Scope} {s : Shared} {H : Hp} {C : Addr} {cl : List (Str × Addr)} {fp : List Addr} : XF P w K mg base N (relS scope sc) k (X.blk s H scope (compEnvC scope cl C X.env) fp) where
  eP := hX.eP
  eW := hX.eW
  eK := hX.eK
  eM := hX.eM
  eB := hX.eB
  eN := hX.eN
  eS := by rw [← hX.eS]; rfl
  calm := hX.calm
  nd := hX.nd
  room := hX.room
  pass := PassesOwn.never
end
end LR

set_option Elab.async false
set_option linter.all false
set_option maxRecDepth 100000
set_option maxHeartbeats 4000000
/-! The layer LR, part h: comprehensions, raise and the rule of a def over a told context. -/
namespace LR
open PySem PySem.Spec PyProof.Rows L2
section
variable {P : Program} {w : World} {K : PySem.W.Frag} {mg : Str → Option Value} {base : Heap} {N : List Str} {sc : Scope} {k : Nat}
variable {X : Cx} {e a b : Expr} {es : List Expr} {A : List C} {pos p p2 : Pos} {x : Str}

theorem fnF {x qual : Str} {st : Stmt} {f : Addr} {fd : FuncData} {N ps : List Str} {k : Nat} {R : List PyData → Res → Prop} (F : Fun K x qual st f fd) (hm : mg x = some (.ref f)) (b : Binds K fd ps []) (S : FnScope N ps (defScope st)) (hR : ∀ ds r, R ds r → ds.length = ps.length)
    (hbody : ∀ X, XF P w K mg base N (defScope st) k X → XT X → ∀ ds r, R ds r → SmR X (A0 N ds) (defBody st) r) : Fn P w K mg base (k + 1) x ps R :=
  fn_ok F hm b S hR fun cdv A outer s H E hr ds r h => hbody _ ⟨rfl, rfl, rfl, rfl, rfl, rfl, rfl, rfl, S.nd, hr, passes_of rfl⟩ ⟨rfl, rfl, fun _ => rfl⟩ ds r h
variable (hX : XF P w K mg base N sc k X)
include hX
theorem raiseF (hT : XT X) {j} {m : Str} {pos' : Pos} (F : XC K mg x) (hg : GlS sc x) (hdb : (x == ("__debug__" : Str)) = false) : S1 X A (.Raise (some (.Call (.Name x p) [.Constant (.str m) j p2] [] pos)) none pos') (.ex x A) :=
  s1_raise hX.calm (by rw [hX.eK, hX.eM]; exact F) (hX.gl hg) hT.stack hT.frame hdb
theorem lcIf {α : Type} {elt iter c : Expr} {scope : Scope} {src : List PyData} (j : Nat) (xs : List α) (enc : α → PyData) (pr : α → Bool) (f : α → PyData) (hi : EvI X A (.Name x p) iter src) (hsrc : src = xs.map enc) (ok : blkC N sc scope [(x, j)] = true)
    (hN : N[j]? = some x) (hx : (relS scope sc).names.lookup x = some .local) (hz : xs.length < sizeLine) (hj : A[j]?.isSome = true)
    (hb : ∀ Y, XF P w K mg base N (relS scope sc) k Y → ∀ z ∈ xs, Et Y ((A.set j .un).set j (.dat (enc z))) c (pr z) ∧ (pr z = true → Ev Y ((A.set j .un).set j (.dat (enc z))) elt (.dat (f z))))
    (hs : ∀ x, foldedSetIterable iter X.env x = pure x := by intro _; rfl) : Ev X A (.ListComp elt [⟨.Name x p, iter, [c], 0⟩] scope pos) (.own (.lst ((xs.filter pr).map f))) :=
  ev_lc (own := [(x, j)]) (g := gName j) (U := uName j) xs enc pr f hX.calm hX.ndX hi hsrc (by rw [hX.eN, hX.eS]; exact blkOk_by ok) (fun s H C cl fp => tgB hX.blk j hN hx) tg_name tgw_name (Nat.le_refl _) hz
    (fun z hz => ⟨_, ⟨by show ((A.set j .un)[j]?).isSome = true; rw [List.getElem?_set_self (lt_of_some hj)]; rfl, rfl⟩, fun s H C cl fp => (hb _ hX.blk z hz).1, fun h s H C cl fp => (hb _ hX.blk z hz).2 h⟩) hs
theorem lcF {α : Type} {elt iter : Expr} {scope : Scope} {src : List PyData} (j : Nat) (xs : List α) (enc : α → PyData) (f : α → PyData) (hi : EvI X A (.Name x p) iter src) (hsrc : src = xs.map enc) (ok : blkC N sc scope [(x, j)] = true)
    (hN : N[j]? = some x) (hx : (relS scope sc).names.lookup x = some .local) (hz : xs.length < sizeLine) (hj : A[j]?.isSome = true)
    (hb : ∀ Y, XF P w K mg base N (relS scope sc) k Y → ∀ z ∈ xs, Ev Y ((A.set j .un).set j (.dat (enc z))) elt (.dat (f z)))
    (hs : ∀ x, foldedSetIterable iter X.env x = pure x := by intro _; rfl) : Ev X A (.ListComp elt [⟨.Name x p, iter, [], 0⟩] scope pos) (.own (.lst (xs.map f))) := by
  have q := ev_lc (own := [(x, j)]) (g := gName j) (U := uName j) (A := A) (elt := elt) (ifs := []) (pos := pos) xs enc (fun _ => true) f hX.calm hX.ndX hi hsrc (by rw [hX.eN, hX.eS]; exact blkOk_by ok) (fun s H C cl fp => tgB hX.blk j hN hx) tg_name tgw_name (Nat.zero_le _) hz
    (fun z hz => ⟨_, ⟨by show ((A.set j .un)[j]?).isSome = true; rw [List.getElem?_set_self (lt_of_some hj)]; rfl, rfl⟩, rfl, fun h s H C cl fp => hb _ hX.blk z hz⟩) hs
  rw [List.filter_eq_self.mpr fun _ _ => rfl] at q
  exact q
/-- name = [..], no if -/
theorem setLcF {α : Type} {elt iter : Expr} {scope : Scope} {src : List PyData} {y : Str} {py spos : Pos} (i j : Nat) (xs : List α) (enc : α → PyData) (f : α → PyData) (hi : EvI X A (.Name x p) iter src) (hsrc : src = xs.map enc) (ok : blkC N sc scope [(x, j)] = true)
    (hN : N[j]? = some x) (hx : (relS scope sc).names.lookup x = some .local) (hz : xs.length < sizeLine) (hj : A[j]?.isSome = true)
    (hb : ∀ Y, XF P w K mg base N (relS scope sc) k Y → ∀ z ∈ xs, Ev Y ((A.set j .un).set j (.dat (enc z))) elt (.dat (f z)))
    (hyN : N[i]? = some y) (hyl : sc.names.lookup y = some .local) (hyj : A[i]?.isSome = true) (hk : sc.kind = .function) (hl : (py.line == pos.line) = true) (ha : (scope.names.any fun (n, k) => n == y && (k == .local || k == .cell)) = false)
    (hs : ∀ x, foldedSetIterable iter X.env x = pure x := by intro _; rfl) : S1 X A (.Assign [.Name y py] (.ListComp elt [⟨.Name x p, iter, [], 0⟩] scope pos) spos) (.nx (A.set i (.own (.lst (xs.map f))))) := by
  have q := s1_setLc (own := [(x, j)]) (g := gName j) (U := uName j) (A := A) (elt := elt) (ifs := []) (pos := pos) (spos := spos) (py := py) xs enc (fun _ => true) f hX.calm hX.ndX hi hsrc (by rw [hX.eN, hX.eS]; exact blkOk_by ok) (fun s H C cl fp => tgB hX.blk j hN hx) tg_name tgw_name (Nat.zero_le _) hz
    (fun z hz => ⟨_, ⟨by show ((A.set j .un)[j]?).isSome = true; rw [List.getElem?_set_self (lt_of_some hj)]; rfl, rfl⟩, rfl, fun h s H C cl fp => hb _ hX.blk z hz⟩) hs (i := i) (y := y) (by rw [hX.eN]; exact hyN) (by rw [hX.eS]; exact hyl) (sw_true (by rw [hX.eS]; exact hk) (by rw [hX.eS]; exact hyl) hl ha) hyj
  rw [List.filter_eq_self.mpr fun _ _ => rfl] at q
  exact q
/-- over zip: two names -/
theorem lcZ {α : Type} {elt iter : Expr} {scope : Scope} {src : List PyData} {y : Str} {p3 p4 : Pos} {kk} (i j : Nat) (xs : List α) (enc1 enc2 : α → PyData) (f : α → PyData) (hi : EvI X A (.Tuple [.Name x p, .Name y p3] kk p4) iter src) (hsrc : src = xs.map fun z => .tuple [enc1 z, enc2 z]) (ok : blkC N sc scope [(x, i), (y, j)] = true)
    (hNi : N[i]? = some x) (hNj : N[j]? = some y) (hx : (relS scope sc).names.lookup x = some .local) (hy : (relS scope sc).names.lookup y = some .local) (hij : i ≠ j) (hz : xs.length < sizeLine) (hi' : A[i]?.isSome = true) (hj : A[j]?.isSome = true)
    (hb : ∀ Y, XF P w K mg base N (relS scope sc) k Y → ∀ z ∈ xs, Ev Y ((((A.set j .un).set i .un).set i (.dat (enc1 z))).set j (.dat (enc2 z))) elt (.dat (f z)))
    (hs : ∀ x, foldedSetIterable iter X.env x = pure x := by intro _; rfl) : Ev X A (.ListComp elt [⟨.Tuple [.Name x p, .Name y p3] kk p4, iter, [], 0⟩] scope pos) (.own (.lst (xs.map f))) := by
  have l1 := lt_of_some hi'
  have l2 := lt_of_some hj
  have q := ev_lc (own := [(x, i), (y, j)]) (g := gTup X.K [i, j].length (gNames [i, j])) (U := uTup [i, j]) (A := A) (elt := elt) (ifs := []) (pos := pos) xs (fun z => .tuple [enc1 z, enc2 z]) (fun _ => true) f hX.calm hX.ndX hi hsrc (by rw [hX.eN, hX.eS]; exact blkOk_by ok)
    (fun s H C cl fp => pg_tup (es := [.Name x p, .Name y p3]) hX.calm (pgs_cons (e := .Name x p) (es := [.Name y p3]) (tgB hX.blk i hNi hx) (pgs_cons (e := .Name y p3) (es := []) (tgB hX.blk j hNj hy) pgs_nil))) tg_tup (tgw_two hij) (Nat.zero_le _) hz
    (fun z hz => ⟨_, ⟨_, rfl, _, _, rfl, by
      show ((((A.set j .un).set i .un))[i]?).isSome = true
      rw [List.getElem?_set_self (by simpa using l1)]; rfl, _, _, rfl, by
      show (((((A.set j .un).set i .un)).set i _)[j]?).isSome = true
      rw [List.getElem?_set_ne hij, List.getElem?_set_ne hij, List.getElem?_set_self l2]; rfl, rfl, rfl⟩, rfl, fun h s H C cl fp => hb _ hX.blk z hz⟩) hs
  rw [List.filter_eq_self.mpr fun _ _ => rfl] at q
  exact q
end
end LR

set_option Elab.async false
set_option linter.all false
set_option maxRecDepth 100000
set_option maxHeartbeats 4000000
/-! The layer LR, part i: stores by place, repeated lists and tuples, steps of ranges, unpacked lists, equal data. -/
namespace LR
open PySem PySem.Spec PyProof.Rows L2

/-! ### t * 0, t * 1 -/
theorem tuple_mulOne (l : Addr) (items : Array Value) (n : Nat) (dd : Option Addr) (sl : Array (Option Value)) (u : Tok) :
    Meets (Builtin.«tuple.__mul__» ⟨[.ref l, .int 1 u], []⟩) (fun _ R s => s.heap.get? l = some { cls := .type "tuple", dict := dd, data := .seq items n, slots := sl } ∧ R (.ok (.ret (Value.ref l))) s) :=
  .of_wp fun prog w A R s h => by
    obtain ⟨hp, g, d, tk, os⟩ := s
    obtain ⟨hl, h⟩ := h
    have f1 := AutoSeq1.idx_int
    have c1 : (items.isEmpty || (1 : Int) == 1) = true := by simp
    wp_walk using wpAny_loadPart' hl
    repeat (first
      | (refine wpAny_ite_false (decide_eq_false (by decide)) ?_; wp_walk using wpAny_loadPart' hl)
      | (refine wpAny_ite_true (decide_eq_true c1) ?_; wp_walk using wpAny_loadPart' hl))
    exact ⟨_, rfl, h⟩
theorem tuple_mulNone (l : Addr) (items : Array Value) (n : Nat) (dd : Option Addr) (sl : Array (Option Value)) (u : Tok) (hi : items.isEmpty = false) :
    Meets (Builtin.«tuple.__mul__» ⟨[.ref l, .int 0 u], []⟩) (fun _ R s => s.heap.get? l = some { cls := .type "tuple", dict := dd, data := .seq items n, slots := sl } ∧
      R (.ok (.ret (Value.ref s.heap.objs.size))) { s with heap := s.heap.push { cls := Value.type "tuple", data := Data.seq #[] }, toks := s.toks }) :=
  .of_wp fun prog w A R s h => by
    obtain ⟨hp, g, d, tk, os⟩ := s
    obtain ⟨hl, h⟩ := h
    have f1 := AutoSeq1.idx_int
    have c1 : (items.isEmpty || (0 : Int) == 1) = false := by simp [hi]
    have c2 : (decide ((0 : Int) ≤ 0) || items.isEmpty) = true := by simp
    wp_walk using wpAny_loadPart' hl
    repeat (first
      | (refine wpAny_ite_false (decide_eq_false (by decide)) ?_; wp_walk using wpAny_loadPart' hl)
      | (refine wpAny_ite_false (decide_eq_false (by rw [c1]; exact Bool.false_ne_true)) ?_; wp_walk using wpAny_loadPart' hl)
      | (refine wpAny_ite_true (decide_eq_true c2) ?_; wp_walk using wpAny_loadPart' hl))
    exact ⟨_, rfl, h⟩
section
variable {X : Cx}
def rRepA (K : PySem.W.Frag) : R2 := fun x y H Q => ∃ l k xs, x = .ref l ∧ y = .int k ∧ SqT K H l xs ∧ xs ≠ [] ∧ 0 ≤ k ∧ k ≤ 1000 ∧ xs.length ≤ 1000 ∧ (k = 1 → Q (.ref l) H) ∧ (k ≠ 1 → ∀ p, H p = none → Q (.ref p) (upd H p (.tup (List.replicate k.toNat xs).flatten)))
theorem op_repA : OpR X (binaryOp .Mult) (rRepA X.K) := by
  intro pins s σ H x y v u Q I rx ry h
  obtain ⟨l, k, xs, rfl, rfl, hT, hne, h1, h2, hz, q1, q2⟩ := h
  by_cases hk : 2 ≤ k
  · exact op_repT pins s σ H _ _ v u Q I rx ry ⟨l, k, xs, rfl, rfl, hT, hne, hk, h2, hz, q2 (by omega)⟩
  cases rx
  obtain ⟨t, rfl⟩ := ry
  obtain ⟨its, r, ⟨⟨cls, dd, data, sl⟩, ho, hc, n, hd⟩, hs⟩ := I.tuple hT
  simp only at hc hd
  subst hc hd
  have hle : its.length = xs.length := r.length.symm
  have hn : its ≠ [] := fun e => hne (by
    rw [e] at hle
    exact List.eq_nil_of_length_eq_zero hle.symm)
  have hi : its.toArray.isEmpty = false := by
    cases its with
    | nil => exact absurd rfl hn
    | cons a b => rfl
  rcases (show k = 0 ∨ k = 1 by omega) with rfl | rfl
  · refine wpAny_binaryOp_repeat_ref (T := "tuple") (U := "int") (by decide) ⟨_, ho, rfl⟩ (fun s' => typeIs_int s' 0 t) noFill_tuple_mul F.fills_int_mul F.slot_int_rmul repeat_tuple F.slot_int_index.lookup
      (call_meets F.slot_int_rmul (typeIs_int s 0 t) F.entry_int_rmul (F.args_int_rmul_2 _ _) (int_rmul_tuple 0 t l its.toArray n dd sl)
        ⟨ho, rfl, ⟨_, ho, rfl⟩, call_meets F.slot_tuple_mul ⟨_, ho, rfl⟩ F.entry_tuple_mul (F.args_tuple_mul_2 _ _) (tuple_mulNone l its.toArray n dd sl t hi) ⟨ho, ?_⟩⟩)
    refine ⟨.ref s.heap.objs.size, _, I.laid (t' := s.toks) (o := .tup []) (fun b ob q => Heap.get?_push_of_some _ q) (Nat.le_refl _) ?_, rfl, q2 (by decide) _ (I.hok.fresh (Nat.le_refl _))⟩
    exact ⟨Nat.zero_le _, [], .nil, IsTup.new _ _⟩
  · refine wpAny_binaryOp_repeat_ref (T := "tuple") (U := "int") (by decide) ⟨_, ho, rfl⟩ (fun s' => typeIs_int s' 1 t) noFill_tuple_mul F.fills_int_mul F.slot_int_rmul repeat_tuple F.slot_int_index.lookup
      (call_meets F.slot_int_rmul (typeIs_int s 1 t) F.entry_int_rmul (F.args_int_rmul_2 _ _) (int_rmul_tuple 1 t l its.toArray n dd sl)
        ⟨ho, rfl, ⟨_, ho, rfl⟩, call_meets F.slot_tuple_mul ⟨_, ho, rfl⟩ F.entry_tuple_mul (F.args_tuple_mul_2 _ _) (tuple_mulOne l its.toArray n dd sl t) ⟨ho, ?_⟩⟩)
    exact ⟨.ref l, H, I, rfl, q1 rfl⟩
end
theorem rep_one {α : Type} (x : α) : ∀ n : Nat, (List.replicate n [x]).flatten = List.replicate n x
  | 0 => rfl
  | n + 1 => by rw [List.replicate_succ, List.flatten_cons, rep_one x n]; rfl
section
variable {P : Program} {w : World} {K : PySem.W.Frag} {mg : Str → Option Value} {base : Heap} {N : List Str} {sc : Scope} {k : Nat}
variable {X : Cx} {e a b : Expr} {es : List Expr} {A : List C} {pos p p2 : Pos} {x : Str}
theorem ev_repT {ds : List PyData} {n : Int} (h1 : Ev X A a (.dat (.tuple ds))) (h2 : Ev X A b (.dat (.int n))) (hne : ds ≠ []) (h0 : 0 ≤ n) (hn : n ≤ 1000) (hz : ds.length ≤ 1000) : Ev X A (.BinOp a .Mult b pos) (.dat (.tuple (List.replicate n.toNat ds).flatten)) :=
  ev_op op_repA h1 h2 fun I H v w s h1 h2 Q q => by
    obtain ⟨p, xs, rfl, hx, ha⟩ := dp_tup h1
    refine ⟨p, n, xs, rfl, dp_int h2, same_t s hx, fun e0 => ?_, h0, hn, by rw [dpAll_len ha]; exact hz, fun e1 => ?_, fun _ l hl => ?_⟩
    · subst e0
      cases ha
      exact hne rfl
    · subst e1
      refine q _ I H (.refl s) ?_
      have e : (List.replicate (1 : Int).toNat ds).flatten = ds := by simp
      rw [e]
      exact h1
    · have g2 := Grow.new (o := .tup (List.replicate n.toNat xs).flatten) s hl
      exact q _ _ _ g2 (.tup upd_same (dpAll_mono g2.ii (dpAll_rep ha _)))
/-- (c,) * n -/
theorem ev_repI {c n : Int} (h1 : Ev X A a (.dat (.tuple [.int c]))) (h2 : Ev X A b (.dat (.int n))) (h0 : 0 ≤ n) (hn : n ≤ 1000) : Ev X A (.BinOp a .Mult b pos) (.dat (tI (List.replicate n.toNat c))) :=
  ev_eq (ev_repT h1 h2 (by simp) h0 hn (by simp)) (by rw [rep_one]; simp [tI])
theorem ev_repL {ds : List PyData} {n : Int} (h1 : EvL X A a ds) (h2 : Ev X A b (.dat (.int n))) (h0 : 0 ≤ n) (hn : n ≤ 1000) (hz : ds.length ≤ 1000) : Ev X A (.BinOp a .Mult b pos) (.own (.lst (List.replicate n.toNat ds).flatten)) := fun I0 H0 σ I H rl Q q =>
  wx_of (pe_op op_rep wx_pe wx_pe) (h1 I0 H0 σ I H rl _ fun p xs I1 H1 g1 hp ha => h2 I0 H0 σ I1 H1 (rl.grow g1) _ fun v I2 H2 g2 hv =>
    ⟨p, n, xs, rfl, dp_int hv, g2.hh _ _ hp, by omega, by omega, by
      rw [dpAll_len ha, sizeLine_eq]
      have := Nat.mul_le_mul hz (show n.toNat ≤ 1000 by omega)
      omega, fun l hl => by
      have g3 := Grow.newH (o := .lst (List.replicate n.toNat xs).flatten) g2.ih hl
      exact q _ _ _ ((g1.trans g2).trans g3) ⟨l, _, rfl, (g1.trans g2).hh.free hl, g2.ih.free hl, upd_same, dpAll_rep (dpAll_mono g2.ii ha) _⟩⟩)
theorem ev_repLI {c n : Int} (h1 : EvL X A a [.int c]) (h2 : Ev X A b (.dat (.int n))) (h0 : 0 ≤ n) (hn : n ≤ 1000) : Ev X A (.BinOp a .Mult b pos) (.own (.lst ((List.replicate n.toNat c).map .int))) :=
  ev_eq (ev_repL h1 h2 h0 hn (by simp)) (by rw [rep_one, List.map_replicate])

/-- the def's own list at name j has become another -/
theorem rel_mut {K : PySem.W.Frag} {I0 H0 I H : Hp} {A : List C} {σ : L2.St} (r1 : Rel K I0 H0 A σ I H) {j : Nat} {q : Addr} {b b' : Ob} {o : HO} (hA : A[j]? = some (.own b)) (e1 : σ[j]? = some (some (.ref q))) (n0 : H0 q = none) (n1 : I q = none) (hb : ObAt K I o b') :
    Rel K I0 H0 (A.set j (.own b')) σ I (upd H q o) := by
  have hj : j < A.length := by
    by_cases hj : j < A.length
    · exact hj
    · rw [List.getElem?_eq_none (by omega)] at hA; cases hA
  refine ⟨r1.gr.mut n0 n1, by rw [List.length_set]; exact r1.len, fun i c hc => ?_, fun i i' r ne o1 o2 h => ?_⟩
  · by_cases hi : j = i
    · subst hi
      rw [List.getElem?_set_self hj] at hc
      cases hc
      exact ⟨q, _, e1, n0, n1, upd_same, hb⟩
    · rw [List.getElem?_set_ne hi] at hc
      have z := r1.cell i c hc
      cases c with
      | un => trivial
      | rf a => exact z
      | tpo ds es => trivial
      | kn a d => exact z
      | dat d => exact z
      | own b =>
        obtain ⟨q2, o2, e2, m0, m, ho2, hb2⟩ := z
        refine ⟨q2, o2, e2, m0, m, ?_, hb2⟩
        have hne : q2 ≠ q := fun z => by
          subst z
          exact r1.apart j i q2 hi (by rw [hA]; trivial) (by rw [hc]; trivial) e1 e2
        rw [upd_ne hne]
        exact ho2
  · have key : ∀ i : Nat, isOwn (A.set j (.own b'))[i]? → isOwn A[i]? := fun i o => by
      by_cases hi : j = i
      · subst hi; rw [hA]; trivial
      · rw [List.getElem?_set_ne hi] at o; exact o
    exact r1.apart i i' r ne (key i o1) (key i' o2) h
variable (hX : XF P w K mg base N sc k X)
include hX
/-- xs[i] = e, xs the def's own list -/
theorem putF (j : Nat) {ds : List PyData} {d : PyData} {i : Int} {ix : Expr} {p3 p4 : Pos} (hN : N[j]? = some x) (hA : A[j]? = some (.own (.lst ds))) (hv : Vis sc x) (he : Ev X A e (.dat d)) (hi : Ev X A ix (.dat (.int i))) (h0 : 0 ≤ i) (h1 : i < ds.length) (hd : (x == ("__debug__" : Str)) = false) (hcd : (x == ("__classdict__" : Str)) = false)
    (ha : ∀ v, assign (.Subscript (.Name x p3) ix p4) X.env v = (do
      let ov ← holding [v] (eval (.Name x p3) X.env)
      let iv ← holding [v, ov] (eval ix X.env)
      standAt p4
      holding [v, ov, iv] (setItem ov iv v)
      release [v, ov, iv] []) := by intro _; rfl)
    (hs : swapsWithSole [.Subscript (.Name x p3) ix p4] e pos.line X.env = pure false := by rfl) (hw : swappedStores [.Subscript (.Name x p3) ix p4] e X.env = pure none := by rfl) :
    S1 X A (.Assign [.Subscript (.Name x p3) ix p4] e pos) (.nx (A.set j (.own (.lst (ds.set i.toNat d))))) := fun I0 H0 σ I H rl D f => by
  obtain ⟨q, o, e1, n0, n, ho, hb⟩ := rl.cell j _ hA
  obtain ⟨vs, rfl, hv1⟩ := obAt_lst hb
  refine ws_of (ps_asg wx_pe (pg_sub (pe_var (by rw [hX.eN]; exact hN) (hX.vis hv) hd hcd) wx_pe set_list ha) hs hw) ?_
  refine he I0 H0 σ I H rl _ fun v I1 H1 g1 hd1 => ⟨.ref q, e1, ?_⟩
  refine hi I0 H0 σ I1 H1 (rl.grow g1) _ fun u I2 H2 g2 hu => ?_
  have g := g1.trans g2
  have n1 := g.nw q _ ho n
  refine ⟨q, vs, i, i.toNat, rfl, dp_int hu, g.hh _ _ ho, ?_, ?_⟩
  · unfold ixN
    rw [dpAll_len hv1, if_pos h0, if_pos h1]
  · exact f σ I2 _ g.ii (rel_mut (rl.grow g) hA e1 n0 n1 (dpAll_set (dp_mono g2.ii hd1) _ (dpAll_mono g.ii hv1)))
/-- a, b, .. = a list -/
theorem unpL {js : List Nat} {ds : List PyData} {A' : List C} {tgs : List Expr} {kk} (hg : PGs X tgs (gNames js)) (he : EvS X A e true ds) (hu : uNames js A ds A') (hlen : (assignEach tgs X.env).length = js.length := by rfl) (hst : (assignEach tgs X.env).findIdx? (·.1) = none := by rfl)
    (hs : swapsWithSole [.Tuple tgs kk p2] e pos.line X.env = pure false := by rfl) (hw : swappedStores [.Tuple tgs kk p2] e X.env = pure none := by rfl) : S1 X A (.Assign [.Tuple tgs kk p2] e pos) (.nx A') := fun I0 H0 σ I H rl D f =>
  ws_of (ps_asg wx_pe (pg_lst hX.calm hg hlen hst) hs hw) (he I0 H0 σ I H rl _ fun p vs I1 H1 g hk ha =>
    ⟨p, vs, rfl, hk, by rw [dpAll_len ha, uNames_len hu], tg_names hu (rl.grow g) ha _ fun σ' r' => f σ' I1 H1 g.ii r'⟩)
/-- a, b, .. = a tuple -/
theorem unpT {js : List Nat} {ds : List PyData} {A' : List C} {tgs : List Expr} {kk} (hg : PGs X tgs (gNames js)) (he : Ev X A e (.dat (.tuple ds))) (hu : uNames js A ds A') (hlen : (assignEach tgs X.env).length = js.length := by rfl) (hst : (assignEach tgs X.env).findIdx? (·.1) = none := by rfl)
    (hs : swapsWithSole [.Tuple tgs kk p2] e pos.line X.env = pure false := by rfl) (hw : swappedStores [.Tuple tgs kk p2] e X.env = pure none := by rfl) : S1 X A (.Assign [.Tuple tgs kk p2] e pos) (.nx A') := fun I0 H0 σ I H rl D f =>
  ws_of (ps_asg wx_pe (pg_tup hX.calm hg hlen hst) hs hw) (he I0 H0 σ I H rl _ fun v I1 H1 g hv => by
    obtain ⟨p, vs, rfl, hk, ha⟩ := dp_tup (show Dp X.K I1 v (.tuple ds) from hv)
    exact ⟨p, vs, rfl, same_t g.ih hk, by rw [dpAll_len ha, uNames_len hu], tg_names hu (rl.grow g) ha _ fun σ' r' => f σ' I1 H1 g.ii r'⟩)
end
end LR

set_option Elab.async false
set_option linter.all false
set_option maxRecDepth 100000
set_option maxHeartbeats 4000000
/-! The layer LR, part j: equal data, sums of written and other tuples, ranges by steps. -/
namespace LR
open PySem PySem.Spec PyProof.Rows L2

/-- an encoding of a type as data: it may be compared, and comparing tells equality -/
structure Enc {α : Type} [DecidableEq α] (enc : α → PyData) (d : Nat) : Prop where
  lay : ∀ x, (enc x).canLay0 = true
  dep : ∀ x, (enc x).depth ≤ d
  eqv : ∀ x y, PyData.eqv (enc x) (enc y) = decide (x = y)
section
variable {α : Type} [DecidableEq α] {enc : α → PyData} {d : Nat}
theorem Enc.layAll (h : Enc enc d) : ∀ xs : List α, PyData.canLayAll0 (xs.map enc) = true
  | [] => by simp [PyData.canLayAll0]
  | x :: r => by rw [List.map_cons]; simp only [PyData.canLayAll0, h.lay x, Bool.true_and]; exact h.layAll r
theorem Enc.depAll (h : Enc enc d) : ∀ xs : List α, PyData.depthAll (xs.map enc) ≤ d
  | [] => by simp [PyData.depthAll]
  | x :: r => by rw [List.map_cons]; simp only [PyData.depthAll]; have := h.depAll r; have := h.dep x; omega
theorem Enc.eqvAll (h : Enc enc d) : ∀ xs ys : List α, PyData.eqvAll (xs.map enc) (ys.map enc) = decide (xs = ys)
  | [], [] => by simp [PyData.eqvAll]
  | [], y :: ys => by simp [PyData.eqvAll]
  | x :: xs, [] => by simp [PyData.eqvAll]
  | x :: xs, y :: ys => by
    rw [List.map_cons, List.map_cons]
    simp only [PyData.eqvAll, h.eqv x y, h.eqvAll xs ys]
    by_cases e1 : x = y <;> by_cases e2 : xs = ys <;> simp [e1, e2]
theorem Enc.tup (h : Enc enc d) : Enc (fun xs : List α => PyData.tuple (xs.map enc)) (d + 1) where
  lay := fun xs => by simp only [PyData.canLay0]; exact h.layAll xs
  dep := fun xs => by simp only [PyData.depth]; have := h.depAll xs; omega
  eqv := fun xs ys => by simp only [PyData.eqv]; exact h.eqvAll xs ys
theorem Enc.lst (h : Enc enc d) : Enc (fun xs : List α => PyData.list (xs.map enc)) (d + 1) where
  lay := fun xs => by simp only [PyData.canLay0]; exact h.layAll xs
  dep := fun xs => by simp only [PyData.depth]; have := h.depAll xs; omega
  eqv := fun xs ys => by simp only [PyData.eqv]; exact h.eqvAll xs ys
theorem Enc.shaped (h : Enc enc d) (hd : d ≤ 64) (x : α) : SeqAt.shaped (enc x) = true := by
  unfold SeqAt.shaped
  rw [h.lay x, Bool.true_and]
  exact decide_eq_true (Nat.le_trans (h.dep x) hd)
end
theorem encInt : Enc PyData.int 0 where
  lay := fun x => by simp [PyData.canLay0]
  dep := fun x => by simp [PyData.depth]
  eqv := fun x y => by simp only [PyData.eqv]; rfl
theorem encI : Enc tI 1 := encInt.tup
theorem encT : Enc tT 2 := encI.tup
section
variable {P : Program} {w : World} {K : PySem.W.Frag} {mg : Str → Option Value} {base : Heap} {N : List Str} {sc : Scope} {k : Nat}
variable {X : Cx} {e a b : Expr} {es : List Expr} {A : List C} {pos p p2 : Pos} {x : Str}
/-! the last item -/
theorem atLast {α : Type} {xs : List α} (z : α) (h : 0 < xs.length) : atI xs (-1) = some (xs.getD (xs.length - 1) z) := by
  unfold atI ixN
  rw [if_neg (by omega), if_pos (by omega)]
  have e : (-1 + (xs.length : Int)).toNat = xs.length - 1 := by omega
  show xs[(-1 + (xs.length : Int)).toNat]? = _
  rw [e, List.getD_eq_getElem?_getD, List.getElem?_eq_getElem (by omega)]
  rfl
theorem ixLastI {xs : List Int} (h : 0 < xs.length) : IxD (xs.map .int) (-1) (.int (xs.getD (xs.length - 1) 0)) := .lit (by
  have q := atLast (xs := xs.map PyData.int) (.int 0) (by simpa using h)
  rw [q]
  congr 1
  rw [List.length_map, List.getD_eq_getElem?_getD, List.getD_eq_getElem?_getD, List.getElem?_map, List.getElem?_eq_getElem (by omega)]
  rfl)
variable (hX : XF P w K mg base N sc k X)
include hX
theorem cmpEq {α : Type} [DecidableEq α] {enc : α → PyData} {d : Nat} (h : Enc enc d) (hd : d ≤ 64) {x y : α} : CmpR X .Eq b (enc x) (enc y) (decide (x = y)) := (cmpR_eqD hX.room (h.shaped hd x) (h.shaped hd y)).eq (h.eqv x y)
theorem cmpNe {α : Type} [DecidableEq α] {enc : α → PyData} {d : Nat} (h : Enc enc d) (hd : d ≤ 64) {x y : α} : CmpR X .NotEq b (enc x) (enc y) (!decide (x = y)) := (cmpR_neD hX.room (h.shaped hd x) (h.shaped hd y)).eq (by rw [h.eqv x y])
theorem cmpEqI {x y : List Int} : CmpR X .Eq b (tI x) (tI y) (decide (x = y)) := cmpEq hX encI (by decide)
theorem cmpNeI {x y : List Int} : CmpR X .NotEq b (tI x) (tI y) (!decide (x = y)) := cmpNe hX encI (by decide)
theorem cmpEqT {x y : List (List Int)} : CmpR X .Eq b (tT x) (tT y) (decide (x = y)) := cmpEq hX encT (by decide)
theorem cmpNeT {x y : List (List Int)} : CmpR X .NotEq b (tT x) (tT y) (!decide (x = y)) := cmpNe hX encT (by decide)
/-! range(lo, hi, c) -/
theorem range3F {tg : Expr} {lo hi c : Int} {n : Nat} {ea eb ec : Expr} (hg : GlS sc "range") (hm : mg "range" = none) (h : EvA X A [ea, eb, ec] [.int lo, .int hi, .int c]) (hc : c ≠ 0) (hc2 : c.natAbs < 1073741824) (hs : Builtin.Range.small lo hi c = true) (hn : Builtin.Range.rangeSize lo hi c = n)
    (hs1 : starEach [ea, eb, ec] X.env = (false, eval ea X.env) :: starEach [eb, ec] X.env := by rfl) (hpl : (backTo pos (starEach [eb, ec] X.env)).any (·.1) = false := by rfl) :
    EvI X A tg (.Call (.Name "range" p) [ea, eb, ec] [] pos) ((List.range n).map fun i : Nat => .int (lo + i * c)) :=
  ⟨_, pi_range3 (hX.gl hg) (by rw [hX.eM]; exact hm) wa_pa hs1 hpl, fun I0 H0 σ I H rl R q => h I0 H0 σ I H rl _ fun vs I1 H1 g hv => by
    cases hv with
    | cons a1 a2 => cases a2 with
      | cons a2 a3 => cases a3 with
        | cons a3 a4 =>
          cases a4
          refine ⟨lo, hi, c, n, by rw [dp_int a1, dp_int a2, dp_int a3], ⟨hc, hc2, hs, hn⟩, q _ I1 H1 g ⟨fun i d e I2 H2 s1 s2 => ?_, fun I2 H2 s1 s2 => by show n ≤ _; simp⟩⟩
          rw [List.getElem?_map] at e
          by_cases hi : i < n
          · rw [List.getElem?_range hi] at e
            refine ⟨hi, fun x H3 ⟨e3, f⟩ => ?_⟩
            subst e3 f
            simp at e
            subst e
            exact ⟨I2, .refl s2, .int _⟩
          · rw [List.getElem?_eq_none (by simpa using hi)] at e
            cases e⟩
end
/-- steps that go up within small bounds -/
theorem size_up {a b c : Int} (hc : 0 < c) : Builtin.Range.rangeSize a b c = ((b - a + c - 1) / c).toNat := by
  unfold Builtin.Range.rangeSize
  rw [if_pos hc]
  by_cases h : a < b
  · rw [if_pos h]
    have e : b - a + c - 1 = (b - a - 1) + c * 1 := by omega
    rw [e, Int.add_mul_ediv_left _ _ (by omega)]
    have : 0 ≤ (b - a - 1) / c := Int.ediv_nonneg (by omega) (by omega)
    omega
  · rw [if_neg h]
    have h2 : (b - a + c - 1) / c < 1 := Int.ediv_lt_of_lt_mul hc (by omega)
    omega
theorem small_up {a b c : Int} (ha : -1000000 ≤ a) (ha' : a ≤ 1000000) (hb : -1000000 ≤ b) (hb' : b ≤ 1000000) (hc : 0 < c) (hc' : c ≤ 1000000) : Builtin.Range.small a b c = true := by
  have h1 : Builtin.Range.rangeSize a b c ≤ 2000001 ∧ 0 ≤ Builtin.Range.rangeSize a b c := by
    unfold Builtin.Range.rangeSize
    rw [if_pos hc]
    split
    · have h0 : 0 ≤ (b - a - 1) / c := Int.ediv_nonneg (by omega) (by omega)
      have h2 : (b - a - 1) / c ≤ b - a - 1 := Int.ediv_le_self _ (by omega)
      omega
    · omega
  unfold Builtin.Range.small
  generalize Builtin.Range.rangeSize a b c = n at *
  simp only [Builtin.Range.rangeFitsLong, Bool.and_eq_true, Bool.or_eq_true, decide_eq_true_eq, beq_iff_eq, show c > 0 from hc, if_true]
  omega
end LR

set_option Elab.async false
set_option linter.all false
set_option maxRecDepth 100000
set_option maxHeartbeats 4000000
/-! The layer LR, part k: slices of lists with a step. -/
namespace LR
open PySem PySem.Spec PyProof.Rows L2

/-- xs[lo:hi:st] -/
def cutS {α : Type} (xs : List α) (lo hi st : Option Int) : List α :=
  (sliceRange (sliceBounds lo hi st xs.length).1 (sliceBounds lo hi st xs.length).2.1 (sliceBounds lo hi st xs.length).2.2).filterMap (xs[·]?)
theorem cutS_map {α β : Type} (f : α → β) (xs : List α) (lo hi st : Option Int) : cutS (xs.map f) lo hi st = (cutS xs lo hi st).map f := by
  unfold cutS
  rw [List.length_map, List.map_filterMap]
  congr 1
  funext i
  rw [List.getElem?_map]
theorem cutS_pick (its : List Value) (lo hi st : Option Int) : slicePick its.toArray lo hi st = (cutS its lo hi st).toArray := by
  unfold slicePick cutS
  rw [List.size_toArray]
  have e : (fun x : Nat => its.toArray[x]?) = fun x => its[x]? := by funext x; simp
  rw [e]
theorem vals_at : ∀ {vs : List V} {us : List Value}, Vals vs us → ∀ {i : Nat} {v : V}, vs[i]? = some v → ∃ u, us[i]? = some u ∧ RelV v u
  | _, _, .nil, _, _, e => by simp at e
  | _, _, .cons h _, 0, _, e => by simp at e; subst e; exact ⟨_, rfl, h⟩
  | _, _, .cons _ t, i + 1, d, e => by
    obtain ⟨v, h1, h2⟩ := vals_at t (i := i) (v := d) (by simpa using e)
    exact ⟨v, by simpa using h1, h2⟩
theorem pick_rel {vs : List V} {us : List Value} (r : Vals vs us) : ∀ ix : List Nat, Vals (ix.filterMap (vs[·]?)) (ix.filterMap (us[·]?))
  | [] => .nil
  | i :: ix => by
    have hl := r.length
    rw [List.filterMap_cons, List.filterMap_cons]
    by_cases h : i < vs.length
    · obtain ⟨u, e1, e2⟩ := vals_at r (List.getElem?_eq_getElem h)
      rw [List.getElem?_eq_getElem h, e1]
      exact .cons e2 (pick_rel r ix)
    · rw [List.getElem?_eq_none (by omega), List.getElem?_eq_none (by omega)]
      exact pick_rel r ix
theorem pick_dp {K : PySem.W.Frag} {H : Hp} {vs : List V} {ds : List PyData} (r : DpAll K H vs ds) : ∀ ix : List Nat, DpAll K H (ix.filterMap (vs[·]?)) (ix.filterMap (ds[·]?))
  | [] => .nil
  | i :: ix => by
    have hl := dpAll_len r
    rw [List.filterMap_cons, List.filterMap_cons]
    by_cases h : i < ds.length
    · obtain ⟨u, e1, e2⟩ := dpAll_get r (List.getElem?_eq_getElem h)
      rw [List.getElem?_eq_getElem h, e1]
      exact .cons e2 (pick_dp r ix)
    · rw [List.getElem?_eq_none (by omega), List.getElem?_eq_none (by omega)]
      exact pick_dp r ix
section
variable {X : Cx} {e lo : Expr} {te tl : TE} {A : List C}
def tStL (K : PySem.W.Frag) (te tl : TE) (st : Int) : TE := fun σ H Q => te σ H fun x H1 => tPart tl σ H1 fun o H2 => ∃ a xs, x = .ref a ∧ SqL K H2 a xs ∧ ∀ p, H2 p = none → Q (.ref p) (upd H2 p (.lst (cutS xs o none (some st))))
theorem pe_stepL {st : Int} {k} {p1 p3 pos : Pos} (h0 : st ≠ 0) (he : PE X e te) (hl : PE X lo tl) : PE X (.Subscript e (.Slice (some lo) none (some (.Constant (.int st) k p1)) p3) pos) (tStL X.K te tl st) := by
  refine ⟨fun pins s σ H Q I h => ?_⟩
  refine Subscript_ (thn (he.run pins s σ H _ I h) fun v s1 ⟨x, H1, I1, r1, q1⟩ => ?_)
  have hst : PO X (some (.Constant (.int st) k p1)) (tPart (tC (.int st))) := po_some pe_int
  refine wpAny_Slice (thn ((po_some hl).run pins s1 σ H1 _ I1 q1) fun vl s2 ⟨l, H2, I2, pl, q2⟩ => ?_)
  obtain ⟨a, xs, ex, hx, q⟩ := q2
  subst ex
  cases r1
  refine thn (po_none.run pins s2 σ H2 (fun o H3 => o = none ∧ H3 = H2) I2 ⟨rfl, rfl⟩) fun vu s3 ⟨u, H3, I3, pu, eu, e3⟩ => ?_
  subst eu e3
  refine thn (hst.run pins s3 σ H3 (fun o H4 => o = some st ∧ H4 = H3) I3 ⟨st, rfl, rfl, rfl⟩) fun vs s4 ⟨o, H4, I4, ps, eo, e4⟩ => ?_
  subst eo e4
  have I5 : Inv X pins σ H4 { s4 with heap := s4.heap.push { cls := .type "slice", data := .fields #[vl, vu, vs] } } := I4.kept (t' := s4.toks) fun b ob q => Heap.get?_push_of_some _ q
  obtain ⟨its, r, ht, hz⟩ := I5.list hx
  have hlen := r.length
  show wpAny (model X.prog X.w) X.A (subscriptTail e (.Slice (some lo) none (some (.Constant (.int st) k p1)) p3) (.ref a) (.ref s4.heap.objs.size)) (EP X pins σ Q) X.xe { s4 with heap := s4.heap.push { cls := .type "slice", data := .fields #[vl, vu, vs] } }
  refine tail_any (ops := [.ref a, .ref s4.heap.objs.size]) ht.isList.typeIs (PySem.slot_list_getitem.lookup) ?_ (by with_unfolding_all rfl)
  refine wpAny_getItem_list_slice ht.isList (Heap.IsSliceOf.new _ vl vu vs) pl pu ps (fun z => h0 (by cases z; rfl)) ?_ (by rw [List.size_toArray]; omega)
  have hsz := slicePick_size_le its.toArray l none (some st)
  rw [cutS_pick] at hsz ⊢
  rw [List.size_toArray, List.size_toArray] at hsz
  have hr : Vals (cutS xs l none (some st)) (cutS its l none (some st)) := by
    unfold cutS
    rw [hlen]
    exact pick_rel r _
  refine ⟨.ref _, _, I5.laid (t' := s4.toks) (o := .lst (cutS xs l none (some st))) (fun b ob q => Heap.get?_push_of_some _ q) (Nat.le_refl _) ?_, rfl, q _ (I5.hok.fresh (Nat.le_refl _))⟩
  exact ⟨by rw [hr.length]; omega, _, 0, hr, Heap.get?_push_size _ rfl⟩
theorem ev_stepL {l st : Int} {k} {p1 p3 pos : Pos} {ds : List PyData} (h : EvS X A e true ds) (hl : Ev X A lo (.dat (.int l))) (h0 : st ≠ 0) : Ev X A (.Subscript e (.Slice (some lo) none (some (.Constant (.int st) k p1)) p3) pos) (.own (.lst (cutS ds (some l) none (some st)))) := fun I0 H0 σ I H rl Q q =>
  wx_of (pe_stepL h0 wx_pe wx_pe) (h I0 H0 σ I H rl _ fun p vs I1 H1 g1 hk ha => hl I0 H0 σ I1 H1 (rl.grow g1) _ fun i I2 H2 g2 hi =>
    ⟨l, dp_int hi, p, vs, rfl, same_l g2.hh hk, fun r hr => by
      have g := g1.trans g2
      have g4 := Grow.newH (o := .lst (cutS vs (some l) none (some st))) g2.ih hr
      refine q _ _ _ (g.trans g4) ⟨r, _, rfl, g.hh.free hr, g2.ih.free hr, upd_same, ?_⟩
      have hd := dpAll_mono g2.ii ha
      show DpAll X.K I2 (cutS vs _ _ _) (cutS ds _ _ _)
      unfold cutS
      rw [dpAll_len hd]
      exact pick_dp hd _⟩)
end
end LR

set_option Elab.async false
set_option linter.all false
set_option maxRecDepth 100000
set_option maxHeartbeats 4000000
/-! The layer LR, part l: slices of encoded lists and tuples, great products. -/
namespace LR
open PySem PySem.Spec PyProof.Rows L2

theorem cut_range {α : Type} (xs : List α) (j k : Nat) : cut xs (some (j : Int)) (some (k : Int)) = (xs.drop j).take (k - j) := by
  unfold cut
  rw [HT.sIx_nat, HT.sIx_nat]
  by_cases h : j ≤ xs.length
  · rw [Nat.min_eq_left h]
    by_cases h2 : k ≤ xs.length
    · rw [Nat.min_eq_left h2]
    · rw [Nat.min_eq_right (by omega), List.take_of_length_le (by simp), List.take_of_length_le (by simp; omega)]
  · rw [Nat.min_eq_right (by omega : xs.length ≤ j), List.drop_eq_nil_of_le (Nat.le_refl _), List.drop_eq_nil_of_le (by omega : xs.length ≤ j)]
    simp
section
variable {X : Cx} {e lo hi : Expr} {A : List C} {pos p2 : Pos} {α : Type} {enc : α → PyData} {xs : List α}
theorem ev_takeT {i : Int} (h : Ev X A e (.dat (.tuple (xs.map enc)))) (hu : Ev X A hi (.dat (.int i))) (h0 : 0 ≤ i) : Ev X A (.Subscript e (.Slice none (some hi) none p2) pos) (.dat (.tuple ((xs.take i.toNat).map enc))) := by
  obtain ⟨k, rfl⟩ := Int.eq_ofNat_of_zero_le h0
  exact ev_eq (ev_slT h evo_none (evo_some hu)) (by rw [cut_to, Int.toNat_natCast, List.map_take])
theorem ev_dropT {i : Int} (h : Ev X A e (.dat (.tuple (xs.map enc)))) (hu : Ev X A lo (.dat (.int i))) (h0 : 0 ≤ i) : Ev X A (.Subscript e (.Slice (some lo) none none p2) pos) (.dat (.tuple ((xs.drop i.toNat).map enc))) := by
  obtain ⟨k, rfl⟩ := Int.eq_ofNat_of_zero_le h0
  exact ev_eq (ev_slT h (evo_some hu) evo_none) (by rw [cut_from, Int.toNat_natCast, List.map_drop])
theorem ev_midT {i j : Int} (h : Ev X A e (.dat (.tuple (xs.map enc)))) (hl : Ev X A lo (.dat (.int i))) (hu : Ev X A hi (.dat (.int j))) (h0 : 0 ≤ i) (h1 : 0 ≤ j) : Ev X A (.Subscript e (.Slice (some lo) (some hi) none p2) pos) (.dat (.tuple (((xs.drop i.toNat).take (j.toNat - i.toNat)).map enc))) := by
  obtain ⟨k, rfl⟩ := Int.eq_ofNat_of_zero_le h0
  obtain ⟨l, rfl⟩ := Int.eq_ofNat_of_zero_le h1
  exact ev_eq (ev_slT h (evo_some hl) (evo_some hu)) (by rw [cut_range, Int.toNat_natCast, Int.toNat_natCast, List.map_take, List.map_drop])
theorem ev_takeL {i : Int} (h : EvS X A e true (xs.map enc)) (hu : Ev X A hi (.dat (.int i))) (h0 : 0 ≤ i) : Ev X A (.Subscript e (.Slice none (some hi) none p2) pos) (.own (.lst ((xs.take i.toNat).map enc))) := by
  obtain ⟨k, rfl⟩ := Int.eq_ofNat_of_zero_le h0
  exact ev_eq (ev_slL h evo_none (evo_some hu)) (by rw [cut_to, Int.toNat_natCast, List.map_take])
theorem ev_dropL {i : Int} (h : EvS X A e true (xs.map enc)) (hu : Ev X A lo (.dat (.int i))) (h0 : 0 ≤ i) : Ev X A (.Subscript e (.Slice (some lo) none none p2) pos) (.own (.lst ((xs.drop i.toNat).map enc))) := by
  obtain ⟨k, rfl⟩ := Int.eq_ofNat_of_zero_le h0
  exact ev_eq (ev_slL h (evo_some hu) evo_none) (by rw [cut_from, Int.toNat_natCast, List.map_drop])
theorem ev_midL {i j : Int} (h : EvS X A e true (xs.map enc)) (hl : Ev X A lo (.dat (.int i))) (hu : Ev X A hi (.dat (.int j))) (h0 : 0 ≤ i) (h1 : 0 ≤ j) : Ev X A (.Subscript e (.Slice (some lo) (some hi) none p2) pos) (.own (.lst (((xs.drop i.toNat).take (j.toNat - i.toNat)).map enc))) := by
  obtain ⟨k, rfl⟩ := Int.eq_ofNat_of_zero_le h0
  obtain ⟨l, rfl⟩ := Int.eq_ofNat_of_zero_le h1
  exact ev_eq (ev_slL h (evo_some hl) (evo_some hu)) (by rw [cut_range, Int.toNat_natCast, Int.toNat_natCast, List.map_take, List.map_drop])
theorem ev_mulW {a b : Expr} {i j : Int} (h1 : Ev X A a (.dat (.int i))) (h2 : Ev X A b (.dat (.int j))) (hc : CMulW i j) : Ev X A (.BinOp a .Mult b pos) (.dat (.int (i * j))) := ev_op op_mulW h1 h2 (bI hc fun _ => .int _)
theorem ev_divW {a b : Expr} {i j : Int} (h1 : Ev X A a (.dat (.int i))) (h2 : Ev X A b (.dat (.int j))) (hc : CDivW i j) : Ev X A (.BinOp a .FloorDiv b pos) (.dat (.int (i / j))) := ev_op op_fdivW h1 h2 (bI hc fun _ => .int _)
theorem ixM {i : Int} (z : α) (h0 : 0 ≤ i) (h1 : i < xs.length) : IxD (xs.map enc) i (enc (xs.getD i.toNat z)) := .lit (by
  obtain ⟨k, rfl⟩ := Int.eq_ofNat_of_zero_le h0
  have h2 : k < xs.length := by omega
  refine atI_nat ?_
  rw [List.getElem?_map, Int.toNat_natCast, List.getElem?_eq_getElem h2, List.getD_eq_getElem?_getD, List.getElem?_eq_getElem h2]
  rfl)
end
end LR

set_option Elab.async false
set_option linter.all false
set_option maxRecDepth 100000
set_option maxHeartbeats 4000000
/-! The layer LR, part m: x in xs of encoded data, the first of a list at which a thing holds. -/
namespace LR
open PySem PySem.Spec PyProof.Rows L2

theorem find_first {α : Type} (p : α → Bool) : ∀ xs : List α, (xs.find? p = none ∧ ∀ (i : Nat) (h : i < xs.length), p xs[i] = false) ∨ ∃ (k : Nat) (h : k < xs.length), (∀ (i : Nat) (h : i < xs.length), i < k → p xs[i] = false) ∧ p xs[k] = true ∧ xs.find? p = some xs[k]
  | [] => .inl ⟨rfl, fun i h => by simp at h⟩
  | x :: r => by
    cases hx : p x with
    | true => exact .inr ⟨0, by simp, fun i _ h => by omega, hx, by rw [List.find?_cons, hx]; rfl⟩
    | false =>
      rcases find_first p r with ⟨a, b⟩ | ⟨k, hk, a, b, c⟩
      · refine .inl ⟨by rw [List.find?_cons, hx]; exact a, fun i h => ?_⟩
        cases i with
        | zero => exact hx
        | succ i => exact b i (by simpa using h)
      · refine .inr ⟨k + 1, by simpa using hk, fun i h hi => ?_, b, by rw [List.find?_cons, hx]; exact c⟩
        cases i with
        | zero => exact hx
        | succ i => exact a i (by simpa using h) (by omega)
section
variable {X : Cx} {a b : Expr} {A : List C} {pos : Pos}
theorem any_eqv {α : Type} [DecidableEq α] {enc : α → PyData} {dd : Nat} (E : Enc enc dd) (x : α) (xs : List α) : ((xs.map enc).any fun z => PyData.eqv z (enc x)) = decide (x ∈ xs) := by
  rw [Bool.eq_iff_iff, List.any_eq_true, decide_eq_true_eq]
  constructor
  · rintro ⟨z, hz, e⟩
    obtain ⟨y, hy, rfl⟩ := List.mem_map.mp hz
    rw [E.eqv, decide_eq_true_eq] at e
    rw [← e]; exact hy
  · exact fun h => ⟨enc x, List.mem_map.mpr ⟨x, h, rfl⟩, by rw [E.eqv]; exact decide_eq_true rfl⟩
theorem cmpR_in {α : Type} [DecidableEq α] {enc : α → PyData} {dd : Nat} {k : Nat} {x : α} {xs : List α} (hr : Room k X.A) (E : Enc enc dd) (hd : dd ≤ 62) (hm : behindInMarks .In b = false := by rfl) : CmpR X .In b (enc x) (.list (xs.map enc)) (decide (x ∈ xs)) :=
  ⟨_, op_inD (by have := hr.un; omega), bin_val fun I H v w s h1 h2 Q q => ⟨enc x, xs.map enc, (dp_mono s h1).kit (E.shaped (by omega) x), (dp_mono s h2).kit (E.lst.shaped (by omega) xs), E.shaped (by omega) x, E.lst.shaped (by omega) xs, q _ (by rw [any_eqv E]; exact .bl _)⟩, hm⟩
theorem cmpR_nin {α : Type} [DecidableEq α] {enc : α → PyData} {dd : Nat} {k : Nat} {x : α} {xs : List α} (hr : Room k X.A) (E : Enc enc dd) (hd : dd ≤ 62) (hm : behindInMarks .NotIn b = false := by rfl) : CmpR X .NotIn b (enc x) (.list (xs.map enc)) (!decide (x ∈ xs)) :=
  ⟨_, op_notInD (by have := hr.un; omega), bin_val fun I H v w s h1 h2 Q q => ⟨enc x, xs.map enc, (dp_mono s h1).kit (E.shaped (by omega) x), (dp_mono s h2).kit (E.lst.shaped (by omega) xs), E.shaped (by omega) x, E.lst.shaped (by omega) xs, q _ (by rw [any_eqv E]; exact .bl _)⟩, hm⟩
def isNone : PyData → Bool
  | .none => true
  | _ => false
theorem dp_isN {K : PySem.W.Frag} {H : Hp} {v : V} {d : PyData} (h : Dp K H v d) : decide (v = .non) = isNone d := by
  cases h <;> simp [isNone]
theorem cmpR_isN {d : PyData} : CmpR X .Is b d .none (isNone d) := ⟨_, op_isN, bin_val fun I H v w s h1 h2 Q q => ⟨dp_none h2, by rw [dp_isN h1]; exact q _ (.bl _)⟩, nomark _⟩
theorem cmpR_notN {d : PyData} : CmpR X .IsNot b d .none (!isNone d) := ⟨_, op_notN, bin_val fun I H v w s h1 h2 Q q => ⟨dp_none h2, by rw [dp_isN h1]; exact q _ (.bl _)⟩, nomark _⟩
end
end LR

set_option Elab.async false
set_option linter.all false
set_option maxRecDepth 100000
set_option maxHeartbeats 4000000
/-! The layer LR, part n: a, b = x, y of names; an expression alone; reversed tuples; zip of tuples; the first turn at which a test fails. -/
namespace LR
open PySem PySem.Spec PyProof.Rows L2

/-- the first place at which p fails -/
theorem first_not (p : Nat → Bool) : ∀ m : Nat, p m = false → ∃ k, k ≤ m ∧ (∀ i, i < k → p i = true) ∧ p k = false
  | 0, h => ⟨0, Nat.le_refl _, fun i hi => absurd hi (Nat.not_lt_zero _), h⟩
  | m + 1, h => by
    cases h0 : p 0 with
    | false => exact ⟨0, Nat.zero_le _, fun i hi => absurd hi (Nat.not_lt_zero _), h0⟩
    | true =>
      obtain ⟨k, a, b, c⟩ := first_not (fun i => p (i + 1)) m h
      refine ⟨k + 1, by omega, fun i hi => ?_, c⟩
      cases i with
      | zero => exact h0
      | succ i => exact b i (by omega)
theorem swp {x y : Str} {f g : Expr} {px py pt pt2 : Pos} {kt k2} (env : Env) (hxy : (y == x) = false) (hl : (py.line == px.line) = true) (hf : ∀ v q, f ≠ .Starred v q) (hg : ∀ v q, g ≠ .Starred v q)
  (h1 : [f, g].all (foldedForSure 8) = false) (h2 : [f, g].all (constantsAlone 8) = false) (hb : env.blockKind = .function) (kx : env.kindOf x = some .local) (ky : env.kindOf y = some .local) : swappedStores [.Tuple [.Name x px, .Name y py] kt pt] (.Tuple [f, g] k2 pt2) env = pure (some [x, y]) := by
  have e1 : (x == y) = false := by
    rw [beq_eq_false_iff_ne] at hxy ⊢
    exact fun z => hxy z.symm
  have e2 : (env.blockKind != .function) = false := by rw [hb]; rfl
  have e3 : ([x, y] : List Str).eraseDups = [x, y] := by
    simp [List.eraseDups_cons, hxy, e1]
  unfold swappedStores
  simp only [List.length_cons, List.length_nil, e2, List.filterMap_cons, List.filterMap_nil, kx, ky, hl, Expr.pos, List.head?_cons, Option.map_some, Option.getD_some, beq_self_eq_true, Bool.and_self, Bool.true_and, if_true, e3, h1, h2, bne_self_eq_false, Bool.or_false, Bool.not_true, Bool.or_self, Bool.false_eq_true, if_false, Nat.zero_add, Nat.reduceAdd]
  split
  · next h => exact absurd h (by decide)
  · split
    · next h =>
      rw [List.any_eq_true] at h
      obtain ⟨z, hz, h⟩ := h
      split at h
      · rcases List.mem_cons.mp hz with q | q
        · exact absurd q.symm (hf _ _)
        · exact absurd (List.mem_singleton.mp q).symm (hg _ _)
      · cases h
    · rfl
section
variable {P : Program} {w : World} {K : PySem.W.Frag} {mg : Str → Option Value} {base : Heap} {N : List Str} {sc : Scope} {k : Nat}
variable {X : Cx} {e a b : Expr} {es : List Expr} {A : List C} {pos p p2 : Pos} {x y : Str}
theorem walks_revT {K : PySem.W.Frag} {I1 : Hp} {q : Addr} {vs : List V} {src : List PyData} (hs : SqT K I1 q vs) (ha : DpAll K I1 vs src) : Walks K (RT.ItvT K q vs.length) I1 src.reverse := by
  have hl := dpAll_len ha
  refine ⟨fun i d e I2 H2 s1 s2 => ?_, fun I2 H2 s1 s2 => by show vs.length ≤ _; rw [List.length_reverse, hl]; exact Nat.le_refl _⟩
  have hi : i < src.length := by
    by_cases h : i < src.length
    · exact h
    · rw [List.getElem?_eq_none (by rw [List.length_reverse]; omega)] at e; cases e
  rw [List.getElem?_reverse hi] at e
  obtain ⟨v, e1, e2⟩ := dpAll_get ha e
  rw [← hl] at e1
  refine ⟨⟨by omega, vs, v, same_t (s1.trans s2) hs, e1⟩, fun z H3 ⟨e3, f⟩ => ?_⟩
  subst e3
  have e4 : z = v := Option.some.inj ((f _ (same_t (s1.trans s2) hs)).symm.trans e1)
  subst e4
  exact ⟨I2, .refl s2, dp_mono s1 e2⟩
theorem ei_revT {tg : Expr} {src : List PyData} (hg : Gl X "reversed") (hm : X.mg "reversed" = none) (h : Ev X A e (.dat (.tuple src))) (hs : starEach (e :: []) X.env = (false, eval e X.env) :: starEach [] X.env := by rfl) : EvI X A tg (.Call (.Name "reversed" p) [e] [] pos) src.reverse := ⟨_, RT.pi_revA hg hm wx_pe (hs := hs), fun I0 H0 σ I H rl R q => h I0 H0 σ I H rl _ fun v I1 H1 g hv => by
  obtain ⟨a, vs, rfl, hs, ha⟩ := dp_tup (show Dp X.K I1 v (.tuple src) from hv)
  exact ⟨a, vs, rfl, .inr ⟨same_t g.ih hs, q _ I1 H1 g (walks_revT hs ha)⟩⟩⟩
/-- an expression alone -/
theorem s1_expr {c : C} (h : Ev X A e c) (hs : swapsWith e none pos.line X.env = pure false := by rfl) : S1 X A (.Expr e pos) (.nx A) := fun I0 H0 σ I H rl D f =>
  ws_of (ps_expr wx_pe hs) (h I0 H0 σ I H rl _ fun v I1 H1 g _ => f σ I1 H1 g.ii (rl.grow g))
variable (hX : XF P w K mg base N sc k X)
include hX
theorem revTF {tg : Expr} {α : Type} {enc : α → PyData} {xs : List α} (hg : GlS sc "reversed") (hm : mg "reversed" = none) (h : Ev X A e (.dat (.tuple (xs.map enc)))) (hs : starEach (e :: []) X.env = (false, eval e X.env) :: starEach [] X.env := by rfl) : EvI X A tg (.Call (.Name "reversed" p) [e] [] pos) (xs.reverse.map enc) := by
  rw [List.map_reverse]
  exact ei_revT (hX.gl hg) (by rw [hX.eM]; exact hm) h hs
/-- a, b = e, f of two names -/
theorem parF {i j : Nat} {f g : Expr} {d1 d2 : PyData} {px py pt pt2 : Pos} {kt k2} (hi : N[i]? = some x) (hj : N[j]? = some y) (hij : i ≠ j) (hx : sc.names.lookup x = some .local) (hy : sc.names.lookup y = some .local) (ha : EvA X A [f, g] [d1, d2]) (hAi : A[i]?.isSome = true) (hAj : A[j]?.isSome = true)
    (hk : sc.kind = .function) (hxy : (y == x) = false) (hl : (py.line == px.line) = true) (hf : ∀ v q, f ≠ .Starred v q) (hg : ∀ v q, g ≠ .Starred v q) (h1 : [f, g].all (foldedForSure 8) = false) (h2 : [f, g].all (constantsAlone 8) = false)
    (hs : swapsWithSole [.Tuple [.Name x px, .Name y py] kt pt] (.Tuple [f, g] k2 pt2) pos.line X.env = pure false := by rfl) :
    S1 X A (.Assign [.Tuple [.Name x px, .Name y py] kt pt] (.Tuple [f, g] k2 pt2) pos) (.nx ((A.set i (.dat d1)).set j (.dat d2))) := fun I0 H0 σ I H rl D fn =>
  ws_of (ps_par hX.calm hX.ndX (by rw [hX.eN]; exact hi) (by rw [hX.eN]; exact hj) hij (by rw [hX.eS]; exact hx) (by rw [hX.eS]; exact hy) wa_pa (swp X.env hxy hl hf hg h1 h2 (by unfold Env.blockKind; rw [hX.eS, hk]; rfl) (by unfold Env.kindOf; rw [hX.eS]; exact hx) (by unfold Env.kindOf; rw [hX.eS]; exact hy)) hs) (ha I0 H0 σ I H rl _ fun vs I1 H1 g hv => by
    cases hv with
    | cons h1 h2 => cases h2 with
      | cons h2 h3 =>
        cases h3
        refine ⟨_, _, rfl, fn _ I1 H1 g.ii ?_⟩
        have r1 := rel_set (rl.grow g) h1 (lt_of_some hAi)
        refine rel_set r1 h2 ?_
        rw [List.length_set]
        exact lt_of_some hAj)
end
end LR

set_option Elab.async false
set_option linter.all false
set_option maxRecDepth 100000
set_option maxHeartbeats 4000000
/-! The layer LR, part o: try .. except X as e, isinstance of the caught one. -/
namespace LR
open PySem PySem.Spec PyProof.Rows L2

/-- isinstance(e, (X, ..)), e the exception that the suite holds -/
def rIsE2 (K : PySem.W.Frag) (D a : Addr) : List V → Hp → VK → Prop := fun xs H Q => ∃ (tp : Addr) (vs : List V) (b : Bool), xs = [.ref a, .ref tp] ∧ SqT K H tp vs ∧ (∀ us, Vals vs us → PySem.W.kitAny K (.ref D) us = some b) ∧ Q (.bl b) H
theorem call_isE2 {X : Cx} {a D : Addr} {oe : Obj} {pn : List (Addr × Obj)} (C : ExcC X.K D) (hz : Zc (.ref D) none oe) (hf : ∃ vs, oe.data = .fields vs) : CallR (X.suite a ((a, oe) :: pn)) (.builtin "isinstance") (rIsE2 X.K D a) := by
  intro pins s σ H xs us Q I r h
  obtain ⟨tp, vs, b, rfl, hT, e, q⟩ := h
  cases r with
  | cons rx rr =>
    cases rr with
    | cons rt rr =>
      cases rr
      cases rx
      cases rt
      obtain ⟨hget, _⟩ := I.pin (a, oe) (List.mem_append.mpr (.inl List.mem_cons_self))
      obtain ⟨vs', hv⟩ := hf
      have J : PySem.W.InstAt s.heap a oe D none := by
        obtain ⟨oc, od, oda, osl⟩ := oe
        obtain ⟨h1, h2⟩ := hz
        dsimp only at h1 h2 hv
        subst h1 h2 hv
        exact ⟨hget, rfl, rfl, trivial⟩
      obtain ⟨its, rv, ⟨⟨cls, dd, data, sl⟩, ho, hc, n, hd⟩, hs⟩ := I.tuple hT
      simp only at hc hd
      subst hc hd
      exact PySem.W.kia_tup (PySem.W.handS_kitx_exc C.hg C.hk C.hs C.hd C.ha C.hn C.ht C.hm) I.kIn J ho (e _ rv) (fun z => nomatch z) fun tk => ⟨.bl b, H, I.kept (t' := tk) fun _ _ z => z, rfl, q⟩
/-- what is told of a context in which an exception is handled -/
structure XS (P : Program) (w : World) (K : PySem.W.Frag) (mg : Str → Option Value) (N : List Str) (sc : Scope) (D : Addr) (a : Addr) (X : Cx) : Prop where
  eP : X.prog = P
  eW : X.w = w
  eK : X.K = K
  eM : X.mg = mg
  eN : X.N = N
  eS : X.env.scope = sc
  nd : N.Nodup
  is : CallR X (.builtin "isinstance") (rIsE K D a)
  is2 : CallR X (.builtin "isinstance") (rIsE2 K D a)
  fn : ∀ x, X.fn x = true
section
variable {P : Program} {w : World} {K : PySem.W.Frag} {mg : Str → Option Value} {base : Heap} {N : List Str} {sc : Scope} {k : Nat}
variable {X : Cx} {e a b : Expr} {es : List Expr} {A : List C} {pos p p2 : Pos} {x y : Str} {D ad : Addr}
theorem XF.tr (hX : XF P w K mg base N sc k X) {pn : List (Addr × Obj)} {xe : Value → Shared → Prop} (hp : PassesOwn (model X.prog X.w) X.A X.env xe) : XF P w K mg base N sc k (X.tr pn xe) where
  eP := hX.eP
  eW := hX.eW
  eK := hX.eK
  eM := hX.eM
  eB := hX.eB
  eN := hX.eN
  eS := hX.eS
  calm := hX.calm
  nd := hX.nd
  room := hX.room
  pass := hp
theorem XT.tr (hT : XT X) {pn : List (Addr × Obj)} {xe : Value → Shared → Prop} : XT (X.tr pn xe) := ⟨hT.stack, hT.frame, hT.fn⟩
variable (hX : XF P w K mg base N sc k X) (hT : XT X)
include hX hT
/-- a try whose body runs through -/
theorem tryN {body suite : List Stmt} {b₀ : Stmt} {np pos' : Pos} {n : Str} {i : Nat} {cl : Addr} {o : Out} (hN : N[i]? = some n) (hln : sc.names.lookup n = some .local) (hg : GlS sc x) (hm : mg x = some (.ref cl)) (hdb : (x == ("__debug__" : Str)) = false) (ho : ∀ z A1, o ≠ .ex z A1)
    (hb : ∀ Y, XF P w K mg base N sc k Y → XT Y → Sm Y A body o) : S1 X A (.Try body [.ExceptHandler (some (.Name x np)) (some n) (b₀ :: suite) pos'] [] [] pos) o := fun I0 H0 σ I H rl D f => by
  refine ws_of (ps_try_as (i := i) (tb := fun W D σ H => ∀ pn xe, Takes (X.tr pn xe) W → PassesOwn (model X.prog X.w) X.A X.env xe → Wss (X.tr pn xe) body D σ H) (ts := fun a cls d D σ H => ∀ oe pn, Zc cls d oe → (∃ vs, oe.data = .fields vs) → Wss (X.suite a ((a, oe) :: pn)) (b₀ :: suite) D σ H) (Wout := fun _ _ _ _ => False)
    hT.stack hT.frame hX.ndX (by rw [hX.eN]; exact hN) (by unfold Env.kindOf; rw [hX.eS]; exact hln) ⟨hX.gl hg, hdb, .inl (by rw [hX.eM]; exact hm)⟩ takes0 (fun W pn xe tk hp => ⟨fun pins s σ H D I h => h pn xe tk hp pins s I⟩) (fun a oe cls d pn hz hf => ⟨fun pins s σ H D I h => h oe pn hz hf pins s I⟩)) ?_
  intro pn xe tk hp
  refine hb _ (hX.tr hp) hT.tr I0 H0 σ I H rl D ?_
  cases o with
  | nx A1 => exact f
  | rt c => exact f
  | bk A1 => exact f
  | ex z A1 => exact absurd rfl (ho z A1)
/-- a try whose body raises what is caught -/
theorem tryX {body suite : List Stmt} {b₀ : Stmt} {np pos' : Pos} {n z : Str} {i : Nat} {cl D : Addr} {A1 A2 : List C} (hN : N[i]? = some n) (hln : sc.names.lookup n = some .local) (hg : GlS sc x) (hm : mg x = some (.ref cl)) (hdb : (x == ("__debug__" : Str)) = false) (hz : mg z = some (.ref D)) (he : PySem.W.exmOne K (.ref D) (.ref cl) = some true) (hE : ExcC K D) (hi : A1[i]?.isSome = true)
    (hb : ∀ Y, XF P w K mg base N sc k Y → XT Y → Sm Y A body (.ex z A1)) (hs : ∀ Y a, XS P w K mg N sc D a Y → Sm Y (A1.set i (.rf a)) (b₀ :: suite) (.nx A2)) :
    S1 X A (.Try body [.ExceptHandler (some (.Name x np)) (some n) (b₀ :: suite) pos'] [] [] pos) (.nx (A2.set i .un)) := fun I0 H0 σ I H rl Dn f => by
  refine ws_of (ps_try_as (i := i) (tb := fun W D σ H => ∀ pn xe, Takes (X.tr pn xe) W → PassesOwn (model X.prog X.w) X.A X.env xe → Wss (X.tr pn xe) body D σ H) (ts := fun a cls d D σ H => ∀ oe pn, Zc cls d oe → (∃ vs, oe.data = .fields vs) → Wss (X.suite a ((a, oe) :: pn)) (b₀ :: suite) D σ H) (Wout := fun _ _ _ _ => False)
    hT.stack hT.frame hX.ndX (by rw [hX.eN]; exact hN) (by unfold Env.kindOf; rw [hX.eS]; exact hln) ⟨hX.gl hg, hdb, .inl (by rw [hX.eM]; exact hm)⟩ takes0 (fun W pn xe tk hp => ⟨fun pins s σ H D I h => h pn xe tk hp pins s I⟩) (fun a oe cls d pn hz hf => ⟨fun pins s σ H D I h => h oe pn hz hf pins s I⟩)) ?_
  intro pn xe tk hp
  refine hb _ (hX.tr hp) hT.tr I0 H0 σ I H rl Dn ⟨_, tk, fun σ1 I1 H1 s1 r1 c hc => ?_⟩
  have hc : X.mg z = some (.ref c) := hc
  rw [hX.eM, hz] at hc
  cases hc
  refine ⟨true, by rw [hX.eK]; exact he, fun _ a ha oe pn2 hzc hf => ?_, fun q => Bool.noConfusion q⟩
  have r1 : Rel X.K I0 H0 A1 σ1 I1 H1 := r1
  have hE' : ExcC X.K D := by rw [hX.eK]; exact hE
  have xs : XS P w K mg N sc D a (X.suite a ((a, oe) :: pn2)) := ⟨hX.eP, hX.eW, hX.eK, hX.eM, hX.eN, hX.eS, hX.nd, by
    have q := call_isE (X := X) (pn := pn2) (a := a) hE' hzc hf
    rw [hX.eK] at q
    exact q, by
    have q := call_isE2 (X := X) (pn := pn2) (a := a) hE' hzc hf
    rw [hX.eK] at q
    exact q, hT.fn⟩
  refine hs _ a xs I0 H0 _ I1 H1 (rel_rf r1 (lt_of_some hi)) _ fun σ2 I2 H2 s2 r2 => ?_
  exact f _ I2 H2 (s1.trans s2) (rel_un r2)
omit hX hT
variable (hS : XS P w K mg N sc D ad X)
include hS
theorem isE_own (i : Nat) {n T : Str} {c : Addr} {bb : Bool} {p1 : Pos} (hN : N[i]? = some n) (hA : A[i]? = some (.rf ad)) (hv : Vis sc n) (hd : (n == ("__debug__" : Str)) = false) (hcd : (n == ("__classdict__" : Str)) = false) (hg : GlS sc "isinstance") (hm : mg "isinstance" = none) (hgT : GlS sc T) (hmT : mg T = some (.ref c))
    (hdT : (T == ("__debug__" : Str)) = false) (hk : PySem.W.kitOne K (.ref D) (.ref c) = some bb) (hs : starEach (.Name n p1 :: [.Name T p2]) X.env = (false, eval (.Name n p1) X.env) :: starEach [.Name T p2] X.env := by rfl) (hs2 : starEach [.Name T p2] X.env = (false, eval (.Name T p2) X.env) :: starEach [] X.env := by rfl) (hpl : (backTo pos (starEach [.Name T p2] X.env)).any (·.1) = false := by rfl)
    (hb : bootBuiltins "isinstance" = some (.builtin "isinstance") := by decide +kernel) : Ev X A (.Call (.Name "isinstance" p) [.Name n p1, .Name T p2] [] pos) (.dat (.bool bb)) := fun I0 H0 σ I H rl Q q =>
  have gl : ∀ {z : Str}, GlS sc z → Gl X z := fun h => by unfold Gl Env.kindOf; rw [hS.eS]; exact h
  wx_of (pe_callB hS.is (gl hg) (by rw [hS.eM]; exact hm) hb (pa_cons (pe_var (i := i) (by rw [hS.eN]; exact hN) (by rw [hS.eS]; exact hv) hd hcd) (pa_cons (pe_glob (v := .ref c) (gl hgT) (by rw [hS.eM]; exact hmT) rfl hdT) pa_nil hs2) hs) (by decide) (by decide) hs hpl)
    ⟨.ref ad, rl.cell i _ hA, .ref c, .ref c, bb, rfl, fun u hu => hu, hk, q _ I H (.refl rl.ih) (Dp.bl _)⟩
theorem isE_ty (i : Nat) {n : Str} {T : String} {bb : Bool} {p1 : Pos} (hN : N[i]? = some n) (hA : A[i]? = some (.rf ad)) (hv : Vis sc n) (hd : (n == ("__debug__" : Str)) = false) (hcd : (n == ("__classdict__" : Str)) = false) (hg : GlS sc "isinstance") (hm : mg "isinstance" = none) (hgT : GlS sc (Str.ofString T)) (hmT : mg (Str.ofString T) = none)
    (hbT : bootBuiltins (Str.ofString T) = some (.type T)) (hn : Str.ofString T ≠ "__name__") (hdT : (Str.ofString T == ("__debug__" : Str)) = false) (hk : PySem.W.kitOne K (.ref D) (.type T) = some bb) (hs : starEach (.Name n p1 :: [.Name (Str.ofString T) p2]) X.env = (false, eval (.Name n p1) X.env) :: starEach [.Name (Str.ofString T) p2] X.env := by rfl) (hs2 : starEach [.Name (Str.ofString T) p2] X.env = (false, eval (.Name (Str.ofString T) p2) X.env) :: starEach [] X.env := by rfl) (hpl : (backTo pos (starEach [.Name (Str.ofString T) p2] X.env)).any (·.1) = false := by rfl)
    (hb : bootBuiltins "isinstance" = some (.builtin "isinstance") := by decide +kernel) : Ev X A (.Call (.Name "isinstance" p) [.Name n p1, .Name (Str.ofString T) p2] [] pos) (.dat (.bool bb)) := fun I0 H0 σ I H rl Q q =>
  have gl : ∀ {z : Str}, GlS sc z → Gl X z := fun h => by unfold Gl Env.kindOf; rw [hS.eS]; exact h
  wx_of (pe_callB hS.is (gl hg) (by rw [hS.eM]; exact hm) hb (pa_cons (pe_var (i := i) (by rw [hS.eN]; exact hN) (by rw [hS.eS]; exact hv) hd hcd) (pa_cons (pe_bltn (v := .ty T) (gl hgT) (by rw [hS.eM]; exact hmT) hbT rfl hn hdT) pa_nil hs2) hs) (by decide) (by decide) hs hpl)
    ⟨.ref ad, rl.cell i _ hA, .ty T, .type T, bb, rfl, fun u hu => hu, hk, q _ I H (.refl rl.ih) (Dp.bl _)⟩
theorem nmS (i : Nat) {d : PyData} (hN : N[i]? = some x) (hA : A[i]? = some (.dat d)) (hv : Vis sc x) (hd : (x == ("__debug__" : Str)) = false) (hcd : (x == ("__classdict__" : Str)) = false) : Ev X A (.Name x pos) (.dat d) :=
  ev_name i (by rw [hS.eN]; exact hN) hA (by rw [hS.eS]; exact hv) hd hcd
theorem ownlS (i : Nat) {ds : List PyData} (hN : N[i]? = some x) (hA : A[i]? = some (.own (.lst ds))) (hv : Vis sc x) (hd : (x == ("__debug__" : Str)) = false) (hcd : (x == ("__classdict__" : Str)) = false) : EvL X A (.Name x pos) ds :=
  evl_own i (by rw [hS.eN]; exact hN) hA (by rw [hS.eS]; exact hv) hd hcd
theorem setS (j : Nat) {c : C} {pos' : Pos} (hN : N[j]? = some x) (hx : L2.Loc sc x) (he : Ev X A e c) (hj : A[j]?.isSome = true) (hs : swapsWith e (some (.Name x pos')) pos.line X.env = pure false := by rfl) : S1 X A (.Assign [.Name x pos'] e pos) (.nx (A.set j c)) :=
  s1_set j (by rw [hS.eN]; exact hS.nd) (by rw [hS.eN]; exact hN) (by rw [hS.eS]; exact hx) he hj rfl hs (.inl (hS.fn _))
omit hS
/-- names of classes -/
def ClsA (X : Cx) (es : List Expr) (vs : List V) : Prop := ∀ σ H (Q : List V → Hp → Prop), Q vs H → Wa X es σ H Q
theorem clsA_nil : ClsA X [] [] := fun σ H Q q => wa_of pa_nil q
include hS
theorem clsA_cons {T : Str} {c : Addr} {vs : List V} {p1 : Pos} (hgT : GlS sc T) (hmT : mg T = some (.ref c)) (hdT : (T == ("__debug__" : Str)) = false) (h : ClsA X es vs) (hs : starEach (.Name T p1 :: es) X.env = (false, eval (.Name T p1) X.env) :: starEach es X.env := by rfl) : ClsA X (.Name T p1 :: es) (.ref c :: vs) := fun σ H Q q =>
  have gl : ∀ {z : Str}, GlS sc z → Gl X z := fun h => by unfold Gl Env.kindOf; rw [hS.eS]; exact h
  wa_of (pa_cons (pe_glob (v := .ref c) (gl hgT) (by rw [hS.eM]; exact hmT) rfl hdT) wa_pa hs) (h σ H _ q)
theorem isE_tup (i : Nat) {n : Str} {vs : List V} {bb : Bool} {p1 : Pos} {k1} (hN : N[i]? = some n) (hA : A[i]? = some (.rf ad)) (hv : Vis sc n) (hd : (n == ("__debug__" : Str)) = false) (hcd : (n == ("__classdict__" : Str)) = false) (hg : GlS sc "isinstance") (hm : mg "isinstance" = none) (hc : ClsA X es vs) (hz : vs.length ≤ sizeLine)
    (hk : ∀ us, Vals vs us → PySem.W.kitAny K (.ref D) us = some bb) (hs : starEach (.Name n p1 :: [.Tuple es k1 p2]) X.env = (false, eval (.Name n p1) X.env) :: starEach [.Tuple es k1 p2] X.env := by rfl) (hs2 : starEach [.Tuple es k1 p2] X.env = (false, eval (.Tuple es k1 p2) X.env) :: starEach [] X.env := by rfl) (hpl : (backTo pos (starEach [.Tuple es k1 p2] X.env)).any (·.1) = false := by rfl)
    (hb : bootBuiltins "isinstance" = some (.builtin "isinstance") := by decide +kernel) : Ev X A (.Call (.Name "isinstance" p) [.Name n p1, .Tuple es k1 p2] [] pos) (.dat (.bool bb)) := fun I0 H0 σ I H rl Q q =>
  have gl : ∀ {z : Str}, GlS sc z → Gl X z := fun h => by unfold Gl Env.kindOf; rw [hS.eS]; exact h
  wx_of (pe_callB hS.is2 (gl hg) (by rw [hS.eM]; exact hm) hb (pa_cons (pe_var (i := i) (by rw [hS.eN]; exact hN) (by rw [hS.eS]; exact hv) hd hcd) (pa_cons (pe_tup wa_pa) pa_nil hs2) hs) (by decide) (by decide) hs hpl)
    ⟨.ref ad, rl.cell i _ hA, hc σ H _ ⟨hz, fun t ht => ⟨t, vs, bb, rfl, .inl (.inl upd_same), hk, q _ I _ (Grow.newH rl.ih ht) (Dp.bl _)⟩⟩⟩
end
/-! what the ends tell of exception classes -/
/-- instances of the class x may be asked for their class -/
def XD (K : PySem.W.Frag) (mg : Str → Option Value) (x : Str) : Prop := ∃ d, mg x = some (.ref d) ∧ ExcC K d
/-- whether an instance of x is one of y -/
def XO (K : PySem.W.Frag) (mg : Str → Option Value) (x y : Str) (b : Bool) : Prop := ∃ d c, mg x = some (.ref d) ∧ mg y = some (.ref c) ∧ PySem.W.kitOne K (.ref d) (.ref c) = some b
def XV (K : PySem.W.Frag) (mg : Str → Option Value) (x : Str) (y : String) (b : Bool) : Prop := ∃ d, mg x = some (.ref d) ∧ PySem.W.kitOne K (.ref d) (.type y) = some b
/-- except y takes x -/
def XM (K : PySem.W.Frag) (mg : Str → Option Value) (x y : Str) : Prop := ∃ d c, mg x = some (.ref d) ∧ mg y = some (.ref c) ∧ PySem.W.exmOne K (.ref d) (.ref c) = some true
end LR

set_option Elab.async false
set_option linter.all false
set_option maxRecDepth 100000
set_option maxHeartbeats 4000000
/-! The layer LR, part p: what raises within an expression. -/
namespace LR
open PySem PySem.Spec PyProof.Rows L2

/-- one of the arguments raises x -/
def EvAX (X : Cx) (A : List C) (es : List Expr) (x : Str) : Prop := ∀ I0 H0 σ I H, Rel X.K I0 H0 A σ I H → ∀ W : WX, Takes X W → (∀ I' H', Grow I H I' H' → ∀ c, X.mg x = some (.ref c) → W (.ref c) none σ H') → ∀ Q : List V → Hp → Prop, Wa X es σ H Q
section
variable {X : Cx} {e a b : Expr} {es : List Expr} {A : List C} {pos p p2 : Pos} {x y : Str}
theorem eax_here (h : EvX X A e x) (hs : starEach (e :: es) X.env = (false, eval e X.env) :: starEach es X.env := by rfl) : EvAX X A (e :: es) x := fun I0 H0 σ I H rl W tk q Q =>
  wa_of (pa_cons wx_pe wa_pa hs) (h I0 H0 σ I H rl W tk q _)
theorem eax_next {d : PyData} (h1 : Ev X A e (.dat d)) (h : EvAX X A es x) (hs : starEach (e :: es) X.env = (false, eval e X.env) :: starEach es X.env := by rfl) : EvAX X A (e :: es) x := fun I0 H0 σ I H rl W tk q Q =>
  wa_of (pa_cons wx_pe wa_pa hs) (h1 I0 H0 σ I H rl _ fun v I1 H1 g1 hv => h I0 H0 σ I1 H1 (rl.grow g1) W tk (fun I2 H2 g2 c hc => q I2 H2 (g1.trans g2) c hc) _)
theorem evx_tup {k} (h : EvAX X A es x) : EvX X A (.Tuple es k pos) x := fun I0 H0 σ I H rl W tk q Q =>
  wx_of (pe_tup wa_pa) (h I0 H0 σ I H rl W tk q _)
/-- e, alone, raises -/
theorem s1_exprX (h : EvX X A e x) (hs : swapsWith e none pos.line X.env = pure false := by rfl) : S1 X A (.Expr e pos) (.ex x A) := fun I0 H0 σ I H rl D f => by
  obtain ⟨W, tk, f⟩ := f
  exact ws_of (ps_expr wx_pe hs) (h I0 H0 σ I H rl W tk (fun I1 H1 g c hc => f σ I1 H1 g.ii (rl.grow g) c hc) _)
theorem s1_retX (h : EvX X A e x) : S1 X A (.Return (some e) pos) (.ex x A) := fun I0 H0 σ I H rl D f => by
  obtain ⟨W, tk, f⟩ := f
  exact ws_of (ps_ret wx_pe) (h I0 H0 σ I H rl W tk (fun I1 H1 g c hc => f σ I1 H1 g.ii (rl.grow g) c hc) _)
theorem s1_setX (j : Nat) {pos' : Pos} (hN : X.N.Nodup) (hi : X.N[j]? = some y) (hx : L2.Loc X.env.scope y) (h : EvX X A e x) (hs : swapsWith e (some (.Name y pos')) pos.line X.env = pure false := by rfl)
    (hf : X.fn y = true ∨ X.env.scope.names.lookup y = some .local := by first | exact .inl rfl | exact .inr rfl | assumption) : S1 X A (.Assign [.Name y pos'] e pos) (.ex x A) := fun I0 H0 σ I H rl D f => by
  obtain ⟨W, tk, f⟩ := f
  exact ws_of (ps_set hN hi hx wx_pe hs hf) (h I0 H0 σ I H rl W tk (fun I1 H1 g c hc => f σ I1 H1 g.ii (rl.grow g) c hc) _)
/-- xs.append(e), e raises -/
theorem s1_appX (j : Nat) {z : Str} {ds : List PyData} {p3 p4 : Pos} (hN : X.N[j]? = some z) (hA : A[j]? = some (.own (.lst ds))) (hv : Vis X.env.scope z) (h : EvX X A e x)
    (hd : (z == ("__debug__" : Str)) = false := by decide) (hcd : (z == ("__classdict__" : Str)) = false := by decide) (hs : starEach (e :: []) X.env = (false, eval e X.env) :: starEach [] X.env := by rfl) (hpl : ((backTo p3 (starEach (e :: []) X.env)).all (fun x => !x.1) && (backToKw p3 (keywordEach [] X.env)).all (fun x => x.1.isSome) && decide (([e] : List Expr).length + ([] : List Keyword).length + (if ([] : List Keyword).isEmpty then 0 else 1) < 30)) = true := by rfl) (hline : (p2.endLine == p3.line) = true := by rfl)
    (hsw : swapsWith (.Call (.Attribute (.Name z p) "append" p2) [e] [] p3) none p4.line X.env = pure false := by rfl) : S1 X A (.Expr (.Call (.Attribute (.Name z p) "append" p2) [e] [] p3) p4) (.ex x A) := fun I0 H0 σ I H rl D f => by
  obtain ⟨W, tk, f⟩ := f
  obtain ⟨q, o, e1, n0, n, ho, hb⟩ := rl.cell j _ hA
  obtain ⟨vs, rfl, ha⟩ := obAt_lst hb
  refine ws_of (ps_expr (pe_bm PySem.F.plainAttrs_list PySem.F.slot_list_append PySem.F.type_list_append mt_append (pe_var hN hv hd hcd) (pa_cons wx_pe pa_nil hs) (hfew := hpl) (hline := hline) (hs := hs) (hplain := rfl)) hsw) ⟨.ref q, e1, .inl ⟨rfl, _, .inl (.inl ho)⟩, ?_⟩
  exact h I0 H0 σ I H rl W tk (fun I1 H1 g c hc => f σ I1 H1 g.ii (rl.grow g) c hc) _
end
end LR

set_option Elab.async false
set_option linter.all false
set_option maxRecDepth 100000
set_option maxHeartbeats 4000000
/-! The layer LR, part q: sorted(xs, key=f), f a def whose results are whole numbers. -/
namespace LR
open PySem PySem.Spec PyProof.Rows L2

theorem each_vals {xs : List V} {its : List Value} {ds : List PyData} {K : PySem.W.Frag} {I : Hp} (r : Vals xs its) (h : DpAll K I xs ds) : PySem.W.EachIs (fun (v : Value) (p : V × PyData) => RelV p.1 v ∧ Dp K I p.1 p.2) its (xs.zip ds) := by
  induction r generalizing ds with
  | nil => cases h; exact .nil
  | cons a b ih =>
    cases h with
    | cons c d => exact .cons ⟨a, c⟩ (ih d)
theorem zip_snd {xs : List V} : ∀ {ds : List PyData}, xs.length = ds.length → (xs.zip ds).map (·.2) = ds := by
  induction xs with
  | nil => intro ds h; cases ds with
    | nil => rfl
    | cons => cases h
  | cons x r ih => intro ds h; cases ds with
    | nil => cases h
    | cons d s =>
      rw [List.zip_cons_cons, List.map_cons, ih (by simpa using h)]
theorem vals_each {K : PySem.W.Frag} {I : Hp} : ∀ {out : List Value} {zs : List (V × PyData)}, PySem.W.EachIs (fun (v : Value) (p : V × PyData) => RelV p.1 v ∧ Dp K I p.1 p.2) out zs → Vals (zs.map (·.1)) out ∧ DpAll K I (zs.map (·.1)) (zs.map (·.2))
  | _, _, .nil => ⟨.nil, .nil⟩
  | _, _, .cons a b => ⟨.cons a.1 (vals_each b).1, .cons a.2 (vals_each b).2⟩
theorem each_snoc' {α β : Type} {R : α → β → Prop} {a : α} {b : β} (h : R a b) : ∀ {as : List α} {bs : List β}, PySem.W.EachIs R as bs → PySem.W.EachIs R (as ++ [a]) (bs ++ [b])
  | _, _, .nil => .cons h .nil
  | _, _, .cons p q => .cons p (each_snoc' h q)
/-- sorted(xs, key=f) -/
def rSortF (K : PySem.W.Frag) (f : Addr) (R : List PyData → Res → Prop) : List V → List V → Hp → VK → Prop := fun vs zs H Q => ∃ (a : Addr) (xs : List V) (ds : List PyData) (key : PyData → Int) (I : Hp), vs = [V.ref a] ∧ zs = [V.ref f] ∧ SqL K H a xs ∧ Same I H ∧ DpAll K I xs ds ∧ (∀ d ∈ ds, R [d] (.ok (.dat (.int (key d))))) ∧
  ∀ (ys : List V) (I2 H2 : Hp) (p : Addr), Grow I H I2 H2 → DpAll K I2 ys (ds.mergeSort fun a b => decide (key a ≤ key b)) → H p = none → I2 p = none → H2 p = none → Q (.ref p) (upd H2 p (.lst ys))
theorem le_key {α : Type} (k : α → Int) (a b : α) : PySem.W.dataLe false (fun x => PyData.int (k x)) a b = decide (k a ≤ k b) := by
  show (!PyProof.Rows.lexLt PyProof.Rows.itemOrd [Sum.inl (k b)] [Sum.inl (k a)]) = _
  simp [PyProof.Rows.lexLt, PyProof.Rows.itemLt]
  rw [← decide_not]
  exact decide_eq_decide.mpr (by omega)
section
variable {X : Cx} {A : List C} {pos p p2 : Pos} {x : Str}
theorem sorted_loop {pins : List (Addr × Obj)} {σ : L2.St} {k : Nat} {pn : Str} {R : List PyData → Res → Prop} {f : Addr} {fd : FuncData} (F : FnOk X.prog X.w X.K X.mg X.base (L2.CX X.prog X.w) k f fd [pn] (Spec X.K X.mg R)) (hr : Room (k + 2) X.A) (hb : Binds X.K fd [pn] [])
    {s : Shared} {H I : Hp} {a kS : Addr} {its : List Value} {xs : List V} {ds : List PyData} {key : PyData → Int} {e1 : Nat} {Pf : PySem.Fin → Shared → Prop} {E : Value → Shared → Prop}
    (Iv : Inv X pins σ H s) (hih : Same I H) (nk : s.heap.get? kS = some (seqObj "list" #[] 0)) (na : s.heap.get? a = some (seqObj "list" #[] e1)) (hka : kS ≠ a) (Hk : H kS = none) (Ha : H a = none)
    (f1 : ∀ c, (c = kS ∨ c = a) → X.s_0.heap.objs.size ≤ c ∧ c ≠ X.env.locals ∧ (∀ x d, X.env.cells.lookup x = some d → d ≠ c) ∧ (∀ p ∈ X.pn ++ pins, p.1 ≠ c) ∧ c ∉ X.fs)
    (rv : Vals xs its) (hd : DpAll X.K I xs ds) (hR : ∀ d ∈ ds, R [d] (.ok (.dat (.int (key d))))) (hz : its.length ≤ sizeLine)
    (done : ∀ (ys : List V) (I2 H2 : Hp) (s2 : Shared), Grow I H I2 H2 → DpAll X.K I2 ys (ds.mergeSort fun a b => decide (key a ≤ key b)) → Inv X pins σ (upd H2 a (.lst ys)) s2 → I2 a = none → H2 a = none → Pf (.done (.ret .none)) s2) :
    wpAny (model X.prog X.w) X.A.in1.in1 (PyProof.Rows.ksk_rest a (.ref f) false its.toArray e1 (.ref kS)) Pf E s := by
  unfold PyProof.Rows.ksk_rest
  refine wpAny_bind (wpAny_rule ?_)
  first
    | rw [List.forIn_toArray]
    | (rw [← Array.forIn_toList]; simp only [List.toList_toArray])
    | rw [← Array.forIn_toList]
  have hlx : its.length = ds.length := by rw [← rv.length, dpAll_len hd]
  refine wpAny_bind (PyProof.Rows.ksk_fold (fun i s' => ∃ I' H' kA e, Inv X ((kS, seqObj "list" kA e) :: (a, seqObj "list" #[] e1) :: pins) σ H' s' ∧ Grow I H I' H' ∧ I' a = none ∧ PySem.W.EachIs (fun (v : Value) (d : PyData) => ∃ t, v = Value.int (key d) t) kA.toList (ds.take i)) its 0 s
    ⟨I, H, #[], 0, ?start, .refl hih, ?sa, by rw [List.take_zero]; exact PySem.W.EachIs.nil⟩ ?step ?done)
  case sa => exact hih.free Ha
  case start =>
    refine Iv.pins_of fun p hp => ?_
    rcases List.mem_cons.mp hp with rfl | hp
    · exact ⟨nk, Hk, (f1 kS (.inl rfl)).2.1, (f1 kS (.inl rfl)).2.2.2.2, fun v z => by cases z⟩
    · rcases List.mem_cons.mp hp with rfl | hp
      · exact ⟨na, Ha, (f1 a (.inr rfl)).2.1, (f1 a (.inr rfl)).2.2.2.2, fun v z => by cases z⟩
      · exact Iv.pin p (List.mem_append.mpr (.inr hp))
  case step =>
    rintro j x s' hx ⟨I', H', kA, e, J, g, ia, hk⟩
    simp only [Nat.zero_add] at hk ⊢
    have hj : j < its.length := (List.getElem?_eq_some_iff.mp hx).1
    obtain ⟨d, hdj⟩ : ∃ d, ds[j]? = some d := ⟨_, List.getElem?_eq_getElem (by omega)⟩
    obtain ⟨v, hv, hvd⟩ := dpAll_get hd hdj
    obtain ⟨x', hx', rx⟩ := rv.get hv
    have ex : x' = x := Option.some.inj (hx'.symm.trans hx)
    subst ex
    have hszk : kA.size ≤ its.length := by
      have h1 := hk.length
      rw [Array.length_toList, List.length_take] at h1
      omega
    have rm : Room k X.A.in1.in1 := Room.in1 (Room.in1 hr)
    refine wpAny_bind (wpAny_attempt ?_)
    refine wpAny_call (codeAny_mono (F.run X.A.in1.in1 X.stack s' H' ⟨[x'], []⟩ [x'] [v] (fun u H2 => ∃ I2, Grow I' H' I2 H2 ∧ u = .int (key d)) (fun _ _ _ => False) rm J.env0.in1.in1 ?bn (.cons rx .nil) ?sp) fun r s2 hq => ?_)
    case bn =>
      have := hb s' [x'] J.kIn rfl
      simpa using this
    case sp =>
      refine ⟨I', [d], .ok (.dat (.int (key d))), g.ih, .cons (dp_mono g.ii hvd) .nil, hR d (List.mem_of_getElem? hdj), fun u I2 H2 g2 hu => ⟨I2, g2, dp_int hu⟩⟩
    cases r with
    | error e =>
      obtain ⟨_, _, _, _, _, _, _, _, _, _, _, _, z⟩ := hq
      exact z.elim
    | ok fl =>
      cases fl with
      | next => exact False.elim hq
      | brk => exact False.elim hq
      | cont => exact False.elim hq
      | ret u =>
        obtain ⟨v2, H2, os, bare, un, hok, r2, I2, g2, rfl⟩ := hq
        obtain ⟨t2, rfl⟩ : ∃ t, u = Value.int (key d) t := r2
        have J2 : Inv X ((kS, seqObj "list" kA e) :: (a, seqObj "list" #[] e1) :: pins) σ H2 s2 := J.call' (ch := []) os un hok bare (fun _ z => nomatch z)
        have pk := J2.pin (kS, seqObj "list" kA e) (List.mem_append.mpr (.inr List.mem_cons_self))
        have pa := J2.pin (a, seqObj "list" #[] e1) (List.mem_append.mpr (.inr (List.mem_cons_of_mem _ List.mem_cons_self)))
        obtain ⟨c2, hc2⟩ : ∃ c2, (s2.heap.update kS (Obj.mapSeq (·.push (Value.int (key d) t2)))).get? kS = some (seqObj "list" (kA.push (Value.int (key d) t2)) c2) := ⟨_, get?_update_seq pk.1 (·.push (Value.int (key d) t2))⟩
        have s1 := Heap.SameBut.update s2.heap kS (Obj.mapSeq (·.push (Value.int (key d) t2)))
        refine wpAny_bind (listUpdate_at pk.1 rfl ?_ (Nat.le_trans hszk hz) (Nat.le_trans (Nat.le_of_eq (Array.size_push ..)) (Nat.succ_le_succ (Nat.le_trans hszk hz))))
        have ff := f1 kS (.inl rfl)
        have J3 : Inv X ((a, seqObj "list" #[] e1) :: pins) σ H2 s2 := J2.pins_of fun p hp => J2.pin p (List.mem_append.mpr (.inr (List.mem_cons_of_mem _ hp)))
        have J4 : Inv X ((a, seqObj "list" #[] e1) :: pins) σ H2 { s2 with heap := s2.heap.update kS (Obj.mapSeq (·.push (Value.int (key d) t2))), toks := s2.toks } :=
          J3.turned (it := kS) (t' := s2.toks) (fun b o hb e => (s1.2 b hb).trans e) pk.2.1 ff.2.1 (.inr ff.1) ff.2.2.1 fun p hp => by
            rcases List.mem_append.mp hp with z | z
            · exact ff.2.2.2.1 p (List.mem_append.mpr (.inl z))
            · rcases List.mem_cons.mp z with rfl | z
              · exact hka.symm
              · exact ff.2.2.2.1 p (List.mem_append.mpr (.inr z))
        refine wpAny_pure ⟨rfl, I2, H2, kA.push (Value.int (key d) t2), c2, ?_, g.trans g2, ?_, ?_⟩
        · refine J4.pins_of fun p hp => ?_
          rcases List.mem_cons.mp hp with rfl | hp
          · exact ⟨hc2, pk.2.1, ff.2.1, ff.2.2.2.2, fun v z => by cases z⟩
          · exact J4.pin p (List.mem_append.mpr (.inr hp))
        · exact g2.ih.free pa.2.1
        · have e3 : ds.take (j + 1) = ds.take j ++ [d] := by rw [List.take_add_one, hdj]; rfl
          rw [e3, Array.toList_push]
          exact each_snoc' (R := fun (v : Value) (d : PyData) => ∃ t, v = Value.int (key d) t) ⟨t2, rfl⟩ hk
  case done =>
    rintro s' ⟨I', H', kA, e, J, g, ia, hk⟩
    have pk := J.pin (kS, seqObj "list" kA e) (List.mem_append.mpr (.inr List.mem_cons_self))
    have pa := J.pin (a, seqObj "list" #[] e1) (List.mem_append.mpr (.inr (List.mem_cons_of_mem _ List.mem_cons_self)))
    have e3 : ds.take (0 + its.length) = ds := List.take_of_length_le (by omega)
    rw [e3] at hk
    have hszk : kA.size = its.length := by
      have h1 := hk.length
      rw [Array.length_toList] at h1
      omega
    have hkd : PySem.W.EachIs (fun (v : Value) (d : PyData) => ∃ as, Reads s'.heap v d as) kA.toList (ds.map fun d => PyData.int (key d)) := by
      have go : ∀ {ks : List Value} {ds : List PyData}, PySem.W.EachIs (fun (v : Value) (d : PyData) => ∃ t, v = Value.int (key d) t) ks ds → PySem.W.EachIs (fun (v : Value) (d : PyData) => ∃ as, Reads s'.heap v d as) ks (ds.map fun d => PyData.int (key d)) := by
        intro ks ds h
        induction h with
        | nil => exact .nil
        | cons a b ih =>
          obtain ⟨t, rfl⟩ := a
          exact .cons ⟨[], .int _ _⟩ ih
      exact go hk
    obtain ⟨G, g1, g2⟩ := restrict s'.heap fun b => decide (b ≠ kS)
    have gk : ∀ b o, b ≠ kS → s'.heap.get? b = some o → G.get? b = some o := fun b o hb e => by
      rw [g1 b (decide_eq_true hb)]
      exact e
    have gkS : G.get? kS = none := g2 kS (decide_eq_false fun z => z rfl)
    have kp : PySem.W.KeepsBut a G s'.heap := fun b o hb e => by
      by_cases hbk : b = kS
      · subst hbk; rw [gkS] at e; cases e
      · rw [← g1 b (decide_eq_true hbk)]; exact e
    have hal : PySem.W.AllAlike (ds.map fun d => PyData.int (key d)) := fun d hd d' hd' => by
      obtain ⟨_, _, rfl⟩ := List.mem_map.mp hd
      obtain ⟨_, _, rfl⟩ := List.mem_map.mp hd'
      rfl
    have hso : PySem.W.Sortable (ds.map fun d => PyData.int (key d)) := .inr fun d hd => by
      obtain ⟨_, _, rfl⟩ := List.mem_map.mp hd
      exact ⟨(fun z => by cases z), fun _ z => by cases z⟩
    refine wpAny_bind (listItems_at pk.1 rfl ?_)
    refine PySem.W.keyH_end (κ := PySem.W.dataKind s'.heap (ds.map fun d => PyData.int (key d))) (h₁ := G) kp gkS pk.1 pa.1 hka (PySem.W.SortsAt.data hkd hal hso fun d hd => ?room) hszk hz fun h' tk c k3 n3 => ?_
    case room =>
      obtain ⟨_, _, rfl⟩ := List.mem_map.mp hd
      have := hr.un
      show X.A.units + 1 + 1 + PyData.depth (.int _) < _
      rw [PyData.depth]
      omega
    have ko : PySem.W.KeyedOut false (ds.map fun d => PyData.int (key d)) its (PySem.W.sortVals (PySem.W.dataKind s'.heap (ds.map fun d => PyData.int (key d))) false kA.toList its) := ⟨s'.heap, kA.toList, hal, rfl, hkd⟩
    generalize PySem.W.sortVals (PySem.W.dataKind s'.heap (ds.map fun d => PyData.int (key d))) false kA.toList its = out at *
    have ez : (xs.zip ds).map (fun p => PyData.int (key p.2)) = ds.map fun d => PyData.int (key d) := by
      conv => rhs; rw [← zip_snd (xs := xs) (ds := ds) (dpAll_len hd)]
      rw [List.map_map]
      rfl
    rw [← ez] at ko
    have each := PySem.W.keyedOut_each (fun p : V × PyData => PyData.int (key p.2)) ko (each_vals rv (dpAll_mono g.ii hd))
    have em : ((xs.zip ds).mergeSort (PySem.W.dataLe false fun p : V × PyData => PyData.int (key p.2))).map (·.2) = ds.mergeSort fun a b => decide (key a ≤ key b) := by
      rw [List.map_mergeSort (s := fun a b => decide (key a ≤ key b)) (fun a _ b _ => le_key (fun p : V × PyData => key p.2) a b), zip_snd (dpAll_len hd)]
    obtain ⟨w1, w2⟩ := vals_each each
    rw [em] at w2
    have hol : out.length = its.length := ko.length (by rw [List.length_map, List.length_zip, dpAll_len hd, Nat.min_self]; exact hlx.symm)
    generalize ((xs.zip ds).mergeSort (PySem.W.dataLe false fun p : V × PyData => PyData.int (key p.2))).map (·.1) = ys at *
    refine done ys I' H' _ g w2 ?_ ia pa.2.1
    have J0 : Inv X pins σ H' s' := J.pins_of fun p hp => J.pin p (List.mem_append.mpr (.inr (List.mem_cons_of_mem _ (List.mem_cons_of_mem _ hp))))
    have fa := f1 a (.inr rfl)
    have fk := f1 kS (.inl rfl)
    have kept : ∀ b o, b ∉ [a, kS] → s'.heap.get? b = some o → h'.get? b = some o := fun b o hb e => by
      have h1 : b ≠ a := fun z => hb (by simp [z])
      have h2 : b ≠ kS := fun z => hb (by simp [z])
      exact k3 b o h1 (gk b o h2 e)
    have nH : ∀ b u, H' b = some u → b ∉ [a, kS] := fun b u e z => by
      rcases List.mem_cons.mp z with rfl | z
      · rw [pa.2.1] at e; cases e
      · rw [List.mem_singleton.mp z, pk.2.1] at e; cases e
    have ne : ∀ b u, H' b = some u → b ≠ a := fun b u e z => nH b u e (by simp [z])
    refine J0.step (ch := [a, kS]) (g' := s'.gens) (d' := s'.drawn) (fun b hb => ?_) (fun b o _ _ hc e _ => kept b o hc e) (fun b o _ _ hc e _ => ⟨o.slots, kept b o hc e⟩) (fun b o hc e n => ?_) (fun b o hc e => ⟨o, kept b o hc e⟩)
      (fun b zs q => by rw [upd_ne (ne b _ q)]; exact q) (fun b o u q => by rw [upd_ne (ne b _ q)]; exact q) (fun b ps q => ⟨#[], by rw [upd_ne (ne b _ q), q]; simp⟩) (fun m hm => ?_) (fun b u q => ?_) J0.bare
    · rcases List.mem_cons.mp hb with rfl | hb
      · exact ⟨.inr fa.1, fa.2.1, fa.2.2.1, fa.2.2.2.1⟩
      · rw [List.mem_singleton.mp hb]
        exact ⟨.inr fk.1, fk.2.1, fk.2.2.1, fk.2.2.2.1⟩
    · rw [upd_ne (fun z => hc (by simp [z]))]; exact n
    · obtain ⟨o, es, ep, ho, r⟩ := hm
      refine ⟨o, es, ep, kept _ _ (fun z => ?_) ho, r⟩
      rcases List.mem_cons.mp z with z | z
      · exact fa.2.1 z.symm
      · exact fk.2.1 (List.mem_singleton.mp z).symm
    · by_cases hba : b = a
      · subst hba
        rw [upd_same] at q
        cases q
        exact ⟨by rw [w1.length, hol]; exact hz, out, c, w1, n3⟩
      · rw [upd_ne hba] at q
        refine (J0.hok b u q).stay (fun c v hc z => kept c v ?_ z) (fun c z => by rw [upd_ne (ne c _ z)]; exact z) (fun c zs z => by rw [upd_ne (ne c _ z)]; exact z)
        rcases hc with z | z
        · rw [z]; exact nH b u q
        · exact nH c _ z
theorem cr_sortF {k : Nat} {pn : Str} {R : List PyData → Res → Prop} {f : Addr} {fd : FuncData} (F : FnOk X.prog X.w X.K X.mg X.base (L2.CX X.prog X.w) k f fd [pn] (Spec X.K X.mg R)) (hr : Room (k + 2) X.A) (hb : Binds X.K fd [pn] []) :
    CallRK X (.builtin "sorted") [Str.ofString "key"] (rSortF X.K f R) := by
  intro pins s σ H vs zs us ws Q I r rz h
  obtain ⟨l, xs, ds, key, I1, rfl, rfl, hs, hih, hd, hR, q⟩ := h
  obtain rfl := Vals.ref1 r
  obtain ⟨w1, rfl, e1⟩ := vals1 rz
  obtain rfl : w1 = Value.ref f := e1
  obtain ⟨its, rv, hl, hz⟩ := I.list hs
  have hz' : its.length ≤ sizeLine := by rw [← rv.length]; exact hz
  refine PySem.W.sorted_of_sort hl.isList hz' (PyProof.Rows.ksk_s1 _ _) (fun _ => PyProof.Rows.ksk_l1 _ _) fun E' => ?_
  rw [show ([Str.ofString "key"].zip [Value.ref f]) = [(Str.ofString "key", Value.ref f)] from rfl, PyProof.Rows.ksk_t1]
  have ho := PySem.W.copyHeap_at s.heap its
  have sz0 : (PySem.W.copyHeap s.heap its).objs.size = s.heap.objs.size + 2 := by
    unfold PySem.W.copyHeap
    rw [size_push', Heap.size_update, size_push']
  obtain ⟨e1, ho1⟩ : ∃ e1, ((PySem.W.copyHeap s.heap its).update (s.heap.objs.size + 1) (Obj.mapSeq fun _ => (#[] : Array Value))).get? (s.heap.objs.size + 1) = some (seqObj "list" #[] e1) := ⟨_, get?_update_seq ho fun _ => #[]⟩
  have hkS : (((PySem.W.copyHeap s.heap its).update (s.heap.objs.size + 1) (Obj.mapSeq fun _ => (#[] : Array Value))).push (seqObj "tuple" its.toArray 0)).objs.size = s.heap.objs.size + 3 := by rw [size_push', Heap.size_update, sz0]
  unfold PyProof.Rows.ksk_tree
  refine wpAny_bind (listItems_at (s := { s with heap := PySem.W.copyHeap s.heap its }) ho rfl ?_)
  refine wpAny_bind (listUpdate_at (s := { s with heap := PySem.W.copyHeap s.heap its }) ho rfl ?_ (by rw [List.size_toArray]; exact hz') (Nat.zero_le _))
  refine wpAny_bind (seqEpoch_at ho1 rfl ?_)
  refine wpAny_bind (wpAny_newTuple ?_ (by show its.length ≤ _; exact hz'))
  refine wpAny_bind (wpAny_newList ?_ (Nat.zero_le _))
  refine wpAny_holding ?_
  have old : ∀ b o, s.heap.get? b = some o → ((((PySem.W.copyHeap s.heap its).update (s.heap.objs.size + 1) (Obj.mapSeq fun _ => (#[] : Array Value))).push (seqObj "tuple" its.toArray 0)).push (seqObj "list" #[] 0)).get? b = some o := fun b o e => by
    have hlt := Heap.lt_size e
    refine Heap.get?_push_of_some _ (Heap.get?_push_of_some _ ?_)
    rw [Heap.get?_update_ne _ _ _ _ (Nat.ne_of_lt (Nat.lt_succ_of_lt hlt))]
    exact PySem.W.copyHeap_old e
  have I2 : Inv X pins σ H { s with heap := (((PySem.W.copyHeap s.heap its).update (s.heap.objs.size + 1) (Obj.mapSeq fun _ => (#[] : Array Value))).push (seqObj "tuple" its.toArray 0)).push (seqObj "list" #[] 0), toks := s.toks } := I.kept old
  have hlt : ∀ c, s.heap.objs.size ≤ c → X.s_0.heap.objs.size ≤ c ∧ c ≠ X.env.locals ∧ (∀ x d, X.env.cells.lookup x = some d → d ≠ c) ∧ (∀ p ∈ X.pn ++ pins, p.1 ≠ c) ∧ c ∉ X.fs := fun c hc => by
    refine ⟨Nat.le_trans I.sz hc, fun z => ?_, fun x d e z => ?_, fun p hp z => ?_, I.nofs hc⟩
    · exact absurd (Nat.lt_of_le_of_lt (z ▸ hc) I.lt) (Nat.lt_irrefl _)
    · obtain ⟨v, o, ho, _⟩ := I.cell x d e
      exact absurd (Nat.lt_of_lt_of_le (Heap.lt_size ho) (z ▸ hc)) (Nat.lt_irrefl _)
    · exact absurd (Nat.lt_of_lt_of_le (Heap.lt_size (I.pin p hp).1) (z ▸ hc)) (Nat.lt_irrefl _)
  refine sorted_loop (kS := (((PySem.W.copyHeap s.heap its).update (s.heap.objs.size + 1) (Obj.mapSeq fun _ => (#[] : Array Value))).push (seqObj "tuple" its.toArray 0)).objs.size) (key := key) F hr hb I2 hih (Heap.get?_push_size _ rfl) (Heap.get?_push_of_some _ (Heap.get?_push_of_some _ ho1)) (by rw [hkS]; exact Nat.ne_of_gt (Nat.lt_succ_of_lt (Nat.lt_succ_self _)))
    (I.hok.fresh (by rw [hkS]; exact Nat.le_add_right _ _)) (I.hok.fresh (Nat.le_succ _)) (fun c hc => hlt c (by
      rcases hc with z | z
      · rw [z, hkS]; exact Nat.le_add_right _ _
      · rw [z]; exact Nat.le_succ _)) rv hd hR hz' fun ys I3 H3 s3 g w J ia ha => ?_
  exact ⟨rfl, .ref _, _, J, rfl, q ys I3 H3 _ g w (I.hok.fresh (Nat.le_succ _)) ia ha⟩
/-- sorted(e, key=f) -/
theorem ev_sortF {k : Nat} {pn y : Str} {R : List PyData → Res → Prop} {ds : List PyData} {e : Expr} (key : PyData → Int) {np kp : Pos} (G : Fn X.prog X.w X.K X.mg X.base k y [pn] R) (hr : Room (k + 2) X.A) (hg : Gl X "sorted") (hm : X.mg "sorted" = none) (hgy : Gl X y) (h : EvS X A e true ds) (hR : ∀ d ∈ ds, R [d] (.ok (.dat (.int (key d)))))
    (hdb : (y == ("__debug__" : Str)) = false := by decide) (hb : bootBuiltins "sorted" = some (.builtin "sorted") := by decide +kernel) (he : backTo pos (starEach (e :: []) X.env) = (false, eval e X.env) :: backTo pos (starEach [] X.env) := by rfl) (hpl : (backTo pos (starEach (e :: []) X.env)).any (·.1) = false := by rfl)
    (hall : (backToKw pos (keywordEach [⟨some (Str.ofString "key"), .Name y np, kp⟩] X.env)).all (·.1.isSome) = true := by rfl) (hnone : (backToKw pos (keywordEach [⟨some (Str.ofString "key"), .Name y np, kp⟩] X.env)).any (·.1.isNone) = false := by rfl) (hks : (backToKw pos (keywordEach [⟨some (Str.ofString "key"), .Name y np, kp⟩] X.env)).filterMap (·.1) = [Str.ofString "key"] := by rfl) (hs : starEach (e :: []) X.env = (false, eval e X.env) :: starEach [] X.env := by rfl) :
    Ev X A (.Call (.Name "sorted" p) [e] [⟨some (Str.ofString "key"), .Name y np, kp⟩] pos) (.own (.lst (ds.mergeSort fun a b => decide (key a ≤ key b)))) := fun I0 H0 σ I H rl Q q => by
  obtain ⟨f, fd, F, hmy, hk, hbd, _⟩ := G.ex
  exact wx_of (pe_callBK (cr_sortF F hr hbd) hg hm hb (pa_cons wx_pe pa_nil hs) (pk_cons (pe_glob (v := .ref f) hgy hmy rfl hdb) pk_nil) (by decide) (by decide) he hpl hall hnone hks) (h I0 H0 σ I H rl _ fun p vs I1 H1 g hkk ha =>
    ⟨p, vs, ds, key, I1, rfl, rfl, hkk, g.ih, ha, hR, fun ys I2 H2 a g2 w n1 n2 n3 => by
      have g3 := Grow.newH (o := .lst ys) g2.ih n3
      exact q _ _ _ ((g.trans g2).trans g3) ⟨a, _, rfl, g.hh.free n1, n2, upd_same, w⟩⟩)
end
end LR

set_option Elab.async false
set_option linter.all false
set_option maxRecDepth 100000
set_option maxHeartbeats 4000000
/-! The layer LR, part r: t[::-1] of a tuple. -/
namespace LR
open PySem PySem.Spec PyProof.Rows L2 HT RZ

theorem pick_all {α : Type} : ∀ l : List α, (List.range l.length).filterMap (fun k => l[k]?) = l
  | [] => rfl
  | x :: r => by
    rw [List.length_cons, List.range_succ_eq_map, List.filterMap_cons, List.filterMap_map]
    show x :: (List.range r.length).filterMap (fun k => r[k]?) = _
    rw [pick_all r]
theorem fm_congr {α β : Type} {f g : α → Option β} : ∀ {l : List α}, (∀ x ∈ l, f x = g x) → l.filterMap f = l.filterMap g
  | [], _ => rfl
  | x :: r, h => by
    rw [List.filterMap_cons, List.filterMap_cons, h x List.mem_cons_self, fm_congr fun y hy => h y (List.mem_cons_of_mem _ hy)]
theorem rev_pick {α : Type} (xs : List α) : (List.range xs.length).filterMap (fun k : Nat => xs[(((xs.length : Int) - 1) + (k : Int) * (-1)).toNat]?) = xs.reverse := by
  have h := pick_all xs.reverse
  rw [List.length_reverse] at h
  conv => rhs; rw [← h]
  refine fm_congr fun k hk => ?_
  have hk := List.mem_range.mp hk
  rw [List.getElem?_reverse hk]
  congr 1
  omega
section
variable {prog : Program} {w : World} {A : Around} {E : Value → Shared → Prop} {s : Shared}
theorem sliceApplied_rev {sl : Addr} {t : Tok} {n : Nat} {Q : Int × Int × Nat → Shared → Prop} (hs : s.heap.IsSliceOf sl .none .none (.int (-1) t))
    (h : Q ((n : Int) - 1, -1, n) s) : wpAny (model prog w) A (Builtin.Slice.sliceApplied (.ref sl) (pure (n : Int))) Q E s := by
  obtain ⟨os, hos, hcs, hds⟩ := id hs
  unfold Builtin.Slice.sliceApplied Builtin.Slice.sliceFields
  refine wpAny_bind (wpAny_bind (wpAny_field hos hds (x := .none) rfl (wpAny_bind (wpAny_field hos hds (x := .none) rfl (wpAny_bind (wpAny_field hos hds (x := .int (-1) t) rfl (wpAny_pure ?_)))))))
  refine wpAny_bind (slicePart_int ?_)
  show wpAny _ _ (if ((-1 : Int) == 0) = true then _ else _) _ _ s
  rw [if_neg (by decide)]
  refine wpAny_bind (slicePart_none (wpAny_bind (slicePart_none (wpAny_bind (wpAny_pure ?_)))))
  show wpAny _ _ (match Builtin.Slice.sliceAdjust none none (-1) (n : Int) with | (lo, hi) => pure (lo, (-1 : Int), Builtin.Slice.slicePlaces lo hi (-1))) _ _ s
  have e : Builtin.Slice.sliceAdjust none none (-1) (n : Int) = ((n : Int) - 1, -1) := by
    unfold Builtin.Slice.sliceAdjust
    rfl
  rw [e]
  have e2 : Builtin.Slice.slicePlaces ((n : Int) - 1) (-1) (-1) = n := by
    unfold Builtin.Slice.slicePlaces
    simp
    omega
  show wpAny _ _ (pure ((n : Int) - 1, (-1 : Int), Builtin.Slice.slicePlaces ((n : Int) - 1) (-1) (-1))) _ _ s
  rw [e2]
  exact wpAny_pure h
theorem getItem_tuple_rev {t sl : Addr} {its : List Value} {tk : Tok} {Q : Value → Shared → Prop} (ht : IsTup s.heap t its.toArray) (hs : s.heap.IsSliceOf sl .none .none (.int (-1) tk)) (hz : its.length ≤ sizeLine)
    (h : Q (.ref s.heap.objs.size) { s with heap := s.heap.push { cls := .type "tuple", data := .seq its.reverse.toArray } }) : wpAny (model prog w) A (getItem (.ref t) (.ref sl)) Q E s := by
  have htake : sizeOk (.seq its.reverse.toArray) := by
    show its.reverse.toArray.size ≤ sizeLine
    rw [List.size_toArray, List.length_reverse]
    exact hz
  obtain ⟨os, hos, hcs, hds⟩ := id hs
  have hTs : s.TypeIs (.ref sl) "slice" := ⟨os, hos, hcs⟩
  unfold getItem
  try with_reducible refine wpAny_holding ?_
  first | refine wpAny_bind (wpAny_pure ?_) | skip
  refine wpAny_bind (wpAny_sequenceKey ht.typeIs (by decide) ?_)
  refine wpAny_bind (wpAny_callSpecial?_slot (name := Str.ofString "__getitem__") ht.typeIs PyProof.Rows.slot_tuple_getitem
    (wpAny_call_entry PyProof.Rows.slot_tuple_getitem ht.typeIs entry_tuple_getitem ?_ (args_tuple_getitem _ _)))
  show wpAny _ _ (Builtin.Tuple.tupleItemsOf (.ref t) >>= _) _ _ s
  refine wpAny_bind (tupleItemsOf_ ht ?_)
  refine wpAny_bind (wpAny_typeOf hTs ?_)
  rw [if_pos (by decide)]
  refine wpAny_bind (sliceApplied_rev hs ?_)
  have hno : ¬ ((((its.toArray.size : Int) - 1) == 0 && (-1 : Int) == 1 && its.toArray.size == its.toArray.size) = true) := by simp
  show wpAny _ _ (if (((its.toArray.size : Int) - 1) == 0 && (-1 : Int) == 1 && its.toArray.size == its.toArray.size) = true then _ else _) _ _ s
  rw [if_neg hno]
  have e : (List.range its.toArray.size).filterMap (fun (k : Nat) => its.toArray[(((its.toArray.size : Int) - 1) + (k : Int) * (-1)).toNat]?) = its.reverse := by
    rw [List.size_toArray, ← rev_pick its]
    congr 1
    funext k
    simp
  rw [e]
  first
    | exact wpAny_bind (m := Builtin.Tuple.tupleExact _) (wpAny_newObj_type (wpAny_pure ⟨_, rfl, wpAny_pure h⟩) htake)
    | exact wpAny_bind (m := Builtin.Tuple.tupleExact _) (wpAny_newObj_type (wpAny_bind (wpAny_pure (wpAny_pure ⟨_, rfl, wpAny_pure h⟩))) htake)
    | exact wpAny_bind (wpAny_bind (m := Builtin.Tuple.tupleExact _) (wpAny_newObj_type (wpAny_pure (wpAny_pure ⟨_, rfl, wpAny_pure h⟩)) htake))
    | exact wpAny_bind (wpAny_bind (m := Builtin.Tuple.tupleExact _) (wpAny_newObj_type (wpAny_pure ⟨_, rfl, wpAny_pure h⟩) htake))
end
theorem vals_rev : ∀ {vs : List V} {us : List Value}, Vals vs us → Vals vs.reverse us.reverse
  | _, _, .nil => .nil
  | _, _, .cons h t => by
    rw [List.reverse_cons, List.reverse_cons]
    exact (vals_rev t).append (.cons h .nil)
section
variable {X : Cx} {e st : Expr} {te : TE} {A : List C}
def tRevT (K : PySem.W.Frag) (te ts : TE) : TE := fun σ H Q => te σ H fun x H1 => ts σ H1 fun i H2 => i = .int (-1) ∧ ∃ a xs, x = .ref a ∧ SqT K H2 a xs ∧ ∀ p, H2 p = none → Q (.ref p) (upd H2 p (.tup xs.reverse))
theorem pe_revT {ts : TE} {p3 pos : Pos} (he : PE X e te) (hst : PE X st ts) : PE X (.Subscript e (.Slice none none (some st) p3) pos) (tRevT X.K te ts) := by
  refine ⟨fun pins s σ H Q I h => ?_⟩
  refine Subscript_ (thn (he.run pins s σ H _ I h) fun v s1 ⟨x, H1, I1, r1, q1⟩ => ?_)
  refine wpAny_Slice (thn (po_none.run pins s1 σ H1 (fun o H3 => o = none ∧ H3 = H1) I1 ⟨rfl, rfl⟩) fun vl s2 ⟨l, H2, I2, pl, el, e2⟩ => ?_)
  subst el e2
  refine thn (po_none.run pins s2 σ H2 (fun o H3 => o = none ∧ H3 = H2) I2 ⟨rfl, rfl⟩) fun vu s3 ⟨u, H3, I3, pu, eu, e3⟩ => ?_
  subst eu e3
  refine thn (hst.run pins s3 σ H3 _ I3 q1) fun vs s4 ⟨i, H4, I4, ri, ei, a, xs, ex, hx, q⟩ => ?_
  subst ei ex
  cases r1
  obtain ⟨tk, rfl⟩ : ∃ t, vs = Value.int (-1) t := ri
  cases pl
  cases pu
  have I5 : Inv X pins σ H4 { s4 with heap := s4.heap.push { cls := .type "slice", data := .fields #[Value.none, Value.none, Value.int (-1) tk] } } := I4.kept (t' := s4.toks) fun b ob q => Heap.get?_push_of_some _ q
  obtain ⟨its, r, ht, hz⟩ := I5.tuple hx
  have hlen := r.length
  show wpAny (model X.prog X.w) X.A (subscriptTail e (.Slice none none (some st) p3) (.ref a) (.ref s4.heap.objs.size)) (EP X pins σ Q) X.xe { s4 with heap := s4.heap.push { cls := .type "slice", data := .fields #[Value.none, Value.none, Value.int (-1) tk] } }
  refine tail_any (ops := [.ref a, .ref s4.heap.objs.size]) ht.typeIs (PyProof.Rows.slot_tuple_getitem.lookup) ?_ (by with_unfolding_all rfl)
  refine getItem_tuple_rev ht (Heap.IsSliceOf.new _ _ _ _) (by rw [← hlen]; exact hz) ?_
  have hr := vals_rev r
  refine ⟨.ref _, _, I5.laid (t' := s4.toks) (o := .tup xs.reverse) (fun b ob q => Heap.get?_push_of_some _ q) (Nat.le_refl _) ?_, rfl, q _ (I5.hok.fresh (Nat.le_refl _))⟩
  exact ⟨by rw [List.length_reverse]; exact hz, _, hr, IsTup.new _ _⟩
/-- t[::-1] -/
theorem ev_revT {p3 pos : Pos} {α : Type} {enc : α → PyData} {xs : List α} (h : Ev X A e (.dat (.tuple (xs.map enc)))) (hl : Ev X A st (.dat (.int (-1)))) : Ev X A (.Subscript e (.Slice none none (some st) p3) pos) (.dat (.tuple (xs.reverse.map enc))) := fun I0 H0 σ I H rl Q q =>
  wx_of (pe_revT wx_pe wx_pe) (h I0 H0 σ I H rl _ fun v I1 H1 g1 hv => hl I0 H0 σ I1 H1 (rl.grow g1) _ fun i I2 H2 g2 hi => by
    have hv := dp_mono g2.ii (show Dp X.K I1 v (.tuple (xs.map enc)) from hv)
    obtain ⟨a, vs, rfl, hk, ha⟩ := dp_tup hv
    refine ⟨dp_int hi, a, vs, rfl, same_t g2.ih hk, fun r hr => ?_⟩
    have g4 := Grow.new (o := .tup vs.reverse) g2.ih hr
    refine q _ _ _ ((g1.trans g2).trans g4) (.tup upd_same ?_)
    rw [List.map_reverse]
    exact dpAll_reverse (dpAll_mono g4.ii ha))
theorem dpAll_zip {K : PySem.W.Frag} {I : Hp} {i : Nat} {d : PyData} : ∀ {src src2 : List PyData}, ((src.zip src2).map fun p => PyData.tuple [p.1, p.2])[i]? = some d → ∃ d1 d2, src[i]? = some d1 ∧ src2[i]? = some d2 ∧ d = .tuple [d1, d2] := by
  intro src src2 h
  rw [List.getElem?_map, Option.map_eq_some_iff] at h
  obtain ⟨⟨d1, d2⟩, h1, h2⟩ := h
  rw [List.getElem?_zip_eq_some] at h1
  exact ⟨d1, d2, h1.1, h1.2, h2.symm⟩
theorem walks_zipT {K : PySem.W.Frag} {I1 : Hp} {a b : Addr} {xs ys : List V} {src src2 : List PyData} (hs : SqT K I1 a xs) (hs2 : SqT K I1 b ys) (ha : DpAll K I1 xs src) (hb : DpAll K I1 ys src2) :
    Walks K (ItzT K a b) I1 ((src.zip src2).map fun p => PyData.tuple [p.1, p.2]) := by
  refine ⟨fun i d e I2 H2 s1 s2 => ?_, fun I2 H2 s1 s2 => ⟨xs, ys, same_t (s1.trans s2) hs, same_t (s1.trans s2) hs2, ?_⟩⟩
  · obtain ⟨d1, d2, e1, e2, rfl⟩ := dpAll_zip (K := K) (I := I1) e
    obtain ⟨v1, f1, g1⟩ := dpAll_get ha e1
    obtain ⟨v2, f2, g2⟩ := dpAll_get hb e2
    refine ⟨⟨xs, ys, v1, v2, same_t (s1.trans s2) hs, same_t (s1.trans s2) hs2, f1, f2⟩, ?_⟩
    rintro z H3 ⟨T, x, y, rfl, hT, rfl, hx, hy⟩
    have ex : x = v1 := Option.some.inj ((hx _ (same_t (s1.trans s2) hs)).symm.trans f1)
    have ey : y = v2 := Option.some.inj ((hy _ (same_t (s1.trans s2) hs2)).symm.trans f2)
    subst ex ey
    have g := Grow.new (o := .tup [x, y]) s2 hT
    exact ⟨_, g, .tup upd_same (.cons (dp_mono (s1.trans g.ii) g1) (.cons (dp_mono (s1.trans g.ii) g2) .nil))⟩
  · rw [List.length_map, List.length_zip, dpAll_len ha, dpAll_len hb]
    omega
variable {P : Program} {w : World} {K : PySem.W.Frag} {mg : Str → Option Value} {base : Heap} {N : List Str} {sc : Scope} {k : Nat} {pos p : Pos}
theorem zipTF (hX : XF P w K mg base N sc k X) {e e2 : Expr} {tpos : Pos} {elts : List Expr} {kk} {α β : Type} {enc1 : α → PyData} {enc2 : β → PyData} {xs : List α} {ys : List β} (hg : GlS sc "zip") (hm : mg "zip" = none) (h1 : Ev X A e (.dat (.tuple (xs.map enc1)))) (h2 : Ev X A e2 (.dat (.tuple (ys.map enc2))))
    (hs : starEach (e :: [e2]) X.env = (false, eval e X.env) :: starEach [e2] X.env := by rfl) (hs2 : starEach (e2 :: []) X.env = (false, eval e2 X.env) :: starEach [] X.env := by rfl) (hpl : (backTo pos (starEach [e2] X.env)).any (·.1) = false := by rfl) :
    EvI X A (.Tuple elts kk tpos) (.Call (.Name "zip" p) [e, e2] [] pos) ((xs.zip ys).map fun z => .tuple [enc1 z.1, enc2 z.2]) := by
  have es : ((xs.zip ys).map fun z => PyData.tuple [enc1 z.1, enc2 z.2]) = (((xs.map enc1).zip (ys.map enc2)).map fun p => PyData.tuple [p.1, p.2]) := by
    rw [List.zip_map, List.map_map]
    rfl
  rw [es]
  refine ⟨_, pi_zipA (hX.gl hg) (by rw [hX.eM]; exact hm) wa_pa hs hpl, fun I0 H0 σ I H rl R q => (ea_cons h1 (ea_cons h2 ea_nil hs2) hs) I0 H0 σ I H rl _ fun vs I1 H1 g hv => ?_⟩
  cases hv with
  | cons a1 b1 => cases b1 with
    | cons a2 b2 =>
      cases b2
      obtain ⟨a, us, rfl, k1, r1⟩ := dp_tup a1
      obtain ⟨b, ws, rfl, k2, r2⟩ := dp_tup a2
      exact ⟨a, b, us, ws, rfl, .inr ⟨same_t g.ih k1, same_t g.ih k2, q _ I1 H1 g (walks_zipT k1 k2 r1 r2)⟩⟩
/-- sorted(e, key=f) of encoded data -/
theorem sortF (hX : XF P w K mg base N sc k X) {e : Expr} {j : Nat} {pn y : Str} {R : List PyData → Res → Prop} {α : Type} {enc : α → PyData} {xs : List α} (key : α → Int) (dec : PyData → α) {np kp : Pos} (G : Fn P w K mg base j y [pn] R) (hj : j + 2 ≤ k) (hg : GlS sc "sorted") (hm : mg "sorted" = none) (hgy : GlS sc y) (h : EvS X A e true (xs.map enc))
    (hdec : ∀ x, dec (enc x) = x) (hR : ∀ x ∈ xs, R [enc x] (.ok (.dat (.int (key x))))) (hdb : (y == ("__debug__" : Str)) = false) (he : backTo pos (starEach (e :: []) X.env) = (false, eval e X.env) :: backTo pos (starEach [] X.env) := by rfl) (hpl : (backTo pos (starEach (e :: []) X.env)).any (·.1) = false := by rfl)
    (hall : (backToKw pos (keywordEach [⟨some (Str.ofString "key"), .Name y np, kp⟩] X.env)).all (·.1.isSome) = true := by rfl) (hnone : (backToKw pos (keywordEach [⟨some (Str.ofString "key"), .Name y np, kp⟩] X.env)).any (·.1.isNone) = false := by rfl) (hks : (backToKw pos (keywordEach [⟨some (Str.ofString "key"), .Name y np, kp⟩] X.env)).filterMap (·.1) = [Str.ofString "key"] := by rfl) (hs : starEach (e :: []) X.env = (false, eval e X.env) :: starEach [] X.env := by rfl) :
    Ev X A (.Call (.Name "sorted" p) [e] [⟨some (Str.ofString "key"), .Name y np, kp⟩] pos) (.own (.lst ((xs.mergeSort fun a b => decide (key a ≤ key b)).map enc))) := by
  have q := ev_sortF (key := fun d => key (dec d)) (hX.fnX G) (hX.room.mono hj) (hX.gl hg) (by rw [hX.eM]; exact hm) (hX.gl hgy) h (fun d hd => by
    obtain ⟨x, hx, rfl⟩ := List.mem_map.mp hd
    rw [hdec]
    exact hR x hx) hdb (by decide +kernel) he hpl hall hnone hks hs (p := p)
  rw [← List.map_mergeSort (r := fun a b => decide (key a ≤ key b)) (fun a _ b _ => by rw [hdec, hdec])] at q
  exact q
end
end LR

set_option Elab.async false
set_option linter.all false
set_option maxRecDepth 100000
set_option maxHeartbeats 4000000
/-! The layer LR, part s: zip of lists and tuples in any mix; xs[lo::st] with a reckoned step; [..] that is appended to at once. -/
namespace LR
open PySem PySem.Spec PyProof.Rows L2

/-- a list (true), a tuple (false) of the heap and its iterator -/
def SeqIs (k : Bool) (h : Heap) (a : Addr) (its : Array Value) : Prop := if k then h.IsList a its else h.IsTuple a its
def ItAt (k : Bool) (h : Heap) (it a : Addr) (i : Nat) : Prop := if k then h.IsListIter it a i else h.IsTupleIter it a i
def SqB (K : PySem.W.Frag) (k : Bool) (H : Hp) (a : Addr) (xs : List V) : Prop := if k then SqL K H a xs else SqT K H a xs
def itObj (k : Bool) (a : Addr) : Obj := { cls := .type (if k then "list_iterator" else "tuple_iterator"), data := .fields #[.ref a, .int 0 0] }
theorem sqB_same {K : PySem.W.Frag} {k : Bool} {H H' : Hp} {a : Addr} {xs : List V} (e : Same H H') (h : SqB K k H a xs) : SqB K k H' a xs := by
  cases k with
  | true => exact same_l e h
  | false => exact same_t e h
theorem seqB {X : Cx} {pins : List (Addr × Obj)} {σ : L2.St} {H : Hp} {s : Shared} {k : Bool} {a : Addr} {xs : List V} (I : Inv X pins σ H s) (h : SqB X.K k H a xs) : ∃ its : List Value, Vals xs its ∧ SeqIs k s.heap a its.toArray := by
  cases k with
  | true =>
    obtain ⟨its, r, p, _⟩ := I.list h
    exact ⟨its, r, p.isList⟩
  | false =>
    obtain ⟨its, r, p, _⟩ := I.tuple h
    exact ⟨its, r, p⟩
theorem sqB_inj {X : Cx} {pins : List (Addr × Obj)} {σ : L2.St} {H : Hp} {s : Shared} {k : Bool} {a : Addr} {xs ys : List V} (I : Inv X pins σ H s) (h : SqB X.K k H a xs) (h2 : SqB X.K k H a ys) : xs = ys := by
  cases k with
  | true => exact I.list_inj h h2
  | false => exact I.tuple_inj h h2
theorem drawsB {prog : Program} {w : World} {A : Around} (hh : A.handled = none) (k : Bool) (it a : Addr) (hne : a ≠ it) (its : Array Value) : Draws prog w A it [it, a] its.size (fun i v => its[i]? = some v) (fun i h => ItAt k h it a i ∧ SeqIs k h a its) := by
  cases k with
  | true => exact Draws.list hh it a hne its
  | false => exact Draws.tuple hh it a hne its
theorem itAt_at {k : Bool} {h h' : Heap} {it a : Addr} {i : Nat} (x : ItAt k h it a i) (e : ∀ o, h.get? it = some o → h'.get? it = some o) : ItAt k h' it a i := by
  cases k with
  | true => exact Heap.IsListIter.at x e
  | false => exact Heap.IsTupleIter.at x e
theorem itAt_get {k : Bool} {h : Heap} {it a : Addr} {i : Nat} (x : ItAt k h it a i) : ∃ o, h.get? it = some o ∧ ∀ v, o.data ≠ .cell v := by
  cases k with
  | true =>
    obtain ⟨o, e, _, d⟩ := x
    exact ⟨o, e, fun v z => by rw [d] at z; cases z⟩
  | false =>
    obtain ⟨o, e, _, d⟩ := x
    exact ⟨o, e, fun v z => by rw [d] at z; cases z⟩
theorem seqIs_lt {k : Bool} {h : Heap} {a : Addr} {its : Array Value} (x : SeqIs k h a its) : a < h.objs.size := by
  cases k with
  | true => obtain ⟨o, e, _⟩ := x; exact Heap.lt_size e
  | false => obtain ⟨o, e, _⟩ := x; exact Heap.lt_size e
theorem beginsB (k : Bool) (a : Addr) (its : Array Value) : Begins (.ref a) (itObj k a) fun h => SeqIs k h a its := by
  cases k with
  | true => exact begins_list a its
  | false => exact begins_tuple a its
theorem itObj_at {k : Bool} {h : Heap} {it a : Addr} (e : h.get? it = some (itObj k a)) : ItAt k h it a 0 := by
  cases k with
  | true => exact ⟨_, e, rfl, rfl⟩
  | false => exact ⟨_, e, rfl, rfl⟩
/-- zip of two, turn by turn: the items in new pairs -/
def ItzB (K : PySem.W.Frag) (k1 k2 : Bool) (a b : Addr) : It :=
  ⟨fun i H => ∃ (xs ys : List V) (x y : V), SqB K k1 H a xs ∧ SqB K k2 H b ys ∧ xs[i]? = some x ∧ ys[i]? = some y,
    fun i H v H' => ∃ T x y, v = .ref T ∧ H T = none ∧ H' = upd H T (.tup [x, y]) ∧ (∀ xs, SqB K k1 H a xs → xs[i]? = some x) ∧ ∀ ys, SqB K k2 H b ys → ys[i]? = some y,
    fun i H => ∃ xs ys : List V, SqB K k1 H a xs ∧ SqB K k2 H b ys ∧ i ≤ xs.length ∧ i ≤ ys.length ∧ (i = xs.length ∨ i = ys.length)⟩
theorem turn_zipB {P : Program} {w : World} {K : PySem.W.Frag} {elts : List Expr} {kk : Nat} {tpos : Pos} {k1 k2 : Bool} {a b z TI TO i1 i2 : Addr} (D : ZipApart z TI TO i1 i2 a b) :
    Turn P w K (.Tuple elts kk tpos) (ItzB K k1 k2 a b) [z, TI, TO, i1, i2] z (fun i h => IsZip h z TI TO .none ∧ IsTupOf2 h TI (.ref i1) (.ref i2) ∧ (∃ x y, IsTupOf2 h TO x y) ∧ ItAt k1 h i1 a i ∧ ItAt k2 h i2 b i) where
  mem := by simp
  obj := fun i h st c hc => by
    obtain ⟨hz, hTI, ⟨x, y, hTO⟩, h1, h2⟩ := st
    simp only [List.mem_cons, List.not_mem_nil, or_false] at hc
    rcases hc with rfl | rfl | rfl | rfl | rfl
    · exact ⟨_, hz, fun v q => nomatch q⟩
    · exact ⟨_, hTI, fun v q => nomatch q⟩
    · exact ⟨_, hTO, fun v q => nomatch q⟩
    · exact itAt_get h1
    · exact itAt_get h2
  keep := fun i h h' st k => by
    obtain ⟨hz, hTI, ⟨x, y, hTO⟩, h1, h2⟩ := st
    exact ⟨k z (by simp) _ hz, k TI (by simp) _ hTI, ⟨x, y, k TO (by simp) _ hTO⟩, itAt_at h1 fun o q => k i1 (by simp) o q, itAt_at h2 fun o q => k i2 (by simp) o q⟩
  item := by
    intro X hP hw hK hc i pins s σ H E I hf st hg
    subst hP hw hK
    obtain ⟨hz, hTI, ⟨x0, y0, hTO⟩, h1, h2⟩ := st
    obtain ⟨xs, ys, x, y, hqx, hqy, hx, hy⟩ := hg
    obtain ⟨its, rv, p⟩ := seqB I hqx
    obtain ⟨its2, rv2, p2⟩ := seqB I hqy
    obtain ⟨u, hu, ru⟩ := rv.get hx
    obtain ⟨u2, hu2, ru2⟩ := rv2.get hy
    have hzl : z < s.heap.objs.size := Heap.lt_size hz
    have S : ZipSep2 z TI TO i1 i2 [i1, a] [i2, b] := ⟨D.TIz, D.TOz, D.TITO, D.TIi1, by simp, by simp [D.i1z.symm, D.l1z.symm], by simp [D.TOi1, D.l1TO.symm], D.TIi2, by simp, by simp [D.i2z.symm, D.l2z.symm], by simp [D.TOi2, D.l2TO.symm], by simp [D.i12, D.l2i1.symm], by simp [D.i12.symm, D.l1i2.symm]⟩
    have hh : X.A.in1.handled = none := I.ok.hd hc
    have D1 := drawsB (prog := X.prog) (w := X.w) hh k1 i1 a D.l1i1 its.toArray
    have D2 := drawsB (prog := X.prog) (w := X.w) hh k2 i2 b D.l2i2 its2.toArray
    refine wpAny_pyNext_zipD2_item S D1 D2 hz hTI hTO ⟨h1, p⟩ ⟨h2, p2⟩ (by
      have := (List.getElem?_eq_some_iff.mp hu).1
      simpa using this) (by
      have := (List.getElem?_eq_some_iff.mp hu2).1
      simpa using this) fun x1 x2 h' tk e1 e2 z' TO' s1 s2 hT hsz hk => ?_
    have e1 : x1 = u := by
      have e1 : its[i]? = some x1 := by simpa using e1
      exact Option.some.inj (e1.symm.trans hu)
    have e2 : x2 = u2 := by
      have e2 : its2[i]? = some x2 := by simpa using e2
      exact Option.some.inj (e2.symm.trans hu2)
    subst e1 e2
    refine ⟨_, rfl, wpAny_letOwnedTupleGo_zip (s := { s with heap := h', toks := tk }) z' fun h'' z'' sb => ?_⟩
    have hT2 : h''.get? s.heap.objs.size = some { cls := .type "tuple", data := .seq #[x1, x2] } := (sb.2 _ (Nat.ne_of_gt hzl)).trans hT
    have new : ObjOk X.prog X.w (upd H s.heap.objs.size (.tup [x, y])) h'' s.heap.objs.size (.tup [x, y]) :=
      ⟨by show 2 ≤ sizeLine; decide, [x1, x2], .cons ru (.cons ru2 .nil), ⟨_, hT2, rfl, _, rfl⟩⟩
    have I1 : Inv X pins σ (upd H s.heap.objs.size (.tup [x, y])) { s with heap := h'', toks := tk } :=
      I.turnedNew (t' := tk) (ch := [z, TI, TO, i1, i2]) (fun c o hb q => (sb.2 c (fun q' => hb (by simp [q']))).trans (hk c o (fun q' => hb (by simp [q'])) (fun q' => hb (by simp [q'])) (fun q' => hb (by simp [q'])) (fun q' => hb (by simp [q'])) q)) hf (Nat.le_refl _) new
    refine ⟨.ref s.heap.objs.size, _, I1, rfl, ⟨_, x, y, rfl, I.hok.fresh (Nat.le_refl _), rfl, fun l hl => by rw [sqB_inj I hl hqx]; exact hx, fun l hl => by rw [sqB_inj I hl hqy]; exact hy⟩, ⟨z'', ?_, ⟨x1, x2, ?_⟩, ?_, ?_⟩, fun c hcm => ?_⟩
    · exact (sb.2 _ D.TIz).trans (hk _ _ D.TIz D.TITO D.TIi1 D.TIi2 hTI)
    · exact (sb.2 _ D.TOz).trans TO'
    · exact itAt_at s1.1 fun o q => (sb.2 _ D.i1z).trans q
    · exact itAt_at s2.1 fun o q => (sb.2 _ D.i2z).trans q
    · have hlt : c < s.heap.objs.size := by
        have hcm' := hcm
        simp only [List.mem_cons, List.not_mem_nil, or_false] at hcm'
        rcases hcm' with rfl | rfl | rfl | rfl | rfl
        · exact hzl
        · exact Heap.lt_size hTI
        · exact Heap.lt_size hTO
        · obtain ⟨_, e, _⟩ := itAt_get h1; exact Heap.lt_size e
        · obtain ⟨_, e, _⟩ := itAt_get h2; exact Heap.lt_size e
      rw [upd_ne (Nat.ne_of_lt hlt)]
      exact (hf c hcm).1
  done := by
    intro X hP hw hK hc i pins s σ H E I hf st hg
    subst hP hw hK
    obtain ⟨hz, hTI, ⟨x0, y0, hTO⟩, h1, h2⟩ := st
    obtain ⟨xs, ys, hqx, hqy, l1, l2, l3⟩ := hg
    obtain ⟨its, rv, p⟩ := seqB I hqx
    obtain ⟨its2, rv2, p2⟩ := seqB I hqy
    have e1 := rv.length
    have e2 := rv2.length
    have S : ZipSep2 z TI TO i1 i2 [i1, a] [i2, b] := ⟨D.TIz, D.TOz, D.TITO, D.TIi1, by simp, by simp [D.i1z.symm, D.l1z.symm], by simp [D.TOi1, D.l1TO.symm], D.TIi2, by simp, by simp [D.i2z.symm, D.l2z.symm], by simp [D.TOi2, D.l2TO.symm], by simp [D.i12, D.l2i1.symm], by simp [D.i12.symm, D.l1i2.symm]⟩
    have hh : X.A.in1.handled = none := I.ok.hd hc
    have D1 := drawsB (prog := X.prog) (w := X.w) hh k1 i1 a D.l1i1 its.toArray
    have D2 := drawsB (prog := X.prog) (w := X.w) hh k2 i2 b D.l2i2 its2.toArray
    exact wpAny_pyNext_zipD2_end S D1 D2 hz hTI hTO ⟨h1, p⟩ ⟨h2, p2⟩ (by simp; omega) (by simp; omega) (by simp; omega) fun h' tk hk =>
      ⟨rfl, I.turnedL (t' := tk) (ch := [z, TI, TO, i1, i2]) (fun c o hb q => hk c o (fun q' => hb (by simp [q'])) (fun q' => hb (by simp [q'])) (fun q' => hb (by simp [q'])) (fun q' => hb (by simp [q'])) q) hf⟩
  self := fun A i s Q E st h => wpAny_pyIter_zip st.1 h
def iZipB (K : PySem.W.Frag) (k1 k2 : Bool) (ta : TA) : TI := fun σ H R => ta σ H fun vs H1 => ∃ a b xs ys, vs = [.ref a, .ref b] ∧ SqB K k1 H1 a xs ∧ SqB K k2 H1 b ys ∧ R (ItzB K k1 k2 a b) H1
theorem pi_zipB {X : Cx} {e e2 : Expr} {ta : TA} {p pos tpos : Pos} {elts : List Expr} {kk : Nat} {k1 k2 : Bool} (hg : Gl X "zip") (hm : X.mg "zip" = none) (ha : PA X [e, e2] ta)
    (hs : starEach [e, e2] X.env = (false, eval e X.env) :: starEach [e2] X.env := by rfl) (hpl : (backTo pos (starEach [e2] X.env)).any (·.1) = false := by rfl) :
    PI X (.Tuple elts kk tpos) (.Call (.Name "zip" p) [e, e2] [] pos) (iZipB X.K k1 k2 ta) := by
  refine ⟨fun pins s σ H R I h => ?_⟩
  refine Call_ (ld_blt I hg hm PyProof.Rows.boot_zip (PyProof.Rows.callWith_type1 (thn (ha.run pos pins s σ H _ I h) fun us s1 ⟨vs, H1, I1, r1, q1⟩ => ?_) hs hpl))
  obtain ⟨a, b, xs, ys, rfl, hqx, hqy, q⟩ := q1
  cases r1 with
  | cons r rr =>
    cases rr with
    | cons r' rr =>
      cases rr
      cases r
      cases r'
      obtain ⟨its, rv, p1⟩ := seqB I1 hqx
      obtain ⟨its2, rv2, p2⟩ := seqB I1 hqy
      refine zip_begins2 (beginsB k1 a its.toArray) (beginsB k2 b its2.toArray) p1 p2 fun h' hz hTI hTO g1 g2 hsz hk => wpAny_pyIter_zip hz ?_
      have I2 : Inv X pins σ H1 { s1 with heap := h' } := I1.kept (t' := s1.toks) hk
      refine ⟨s1.heap.objs.size + 4, [s1.heap.objs.size + 4, s1.heap.objs.size + 2, s1.heap.objs.size + 3, s1.heap.objs.size, s1.heap.objs.size + 1], _, _, H1, rfl, I2, turn_zipB (k1 := k1) (k2 := k2) (PySem.W.ktu_apart s1.heap.objs.size a b (seqIs_lt p1) (seqIs_lt p2)), ⟨hz, hTI, ⟨_, _, hTO⟩, itObj_at g1, itObj_at g2⟩, fun c hcm => ?_, q⟩
      have hle : s1.heap.objs.size ≤ c := by
        simp only [List.mem_cons, List.not_mem_nil, or_false] at hcm
        rcases hcm with z | z | z | z | z
        · rw [z]; exact Nat.le_add_right _ _
        · rw [z]; exact Nat.le_add_right _ _
        · rw [z]; exact Nat.le_add_right _ _
        · rw [z]; exact Nat.le_refl _
        · rw [z]; exact Nat.le_add_right _ _
      exact I1.fpOk hle (I1.hok.fresh hle)
theorem walks_zipB {K : PySem.W.Frag} {I1 : Hp} {k1 k2 : Bool} {a b : Addr} {xs ys : List V} {src src2 : List PyData} (hs : SqB K k1 I1 a xs) (hs2 : SqB K k2 I1 b ys) (ha : DpAll K I1 xs src) (hb : DpAll K I1 ys src2) :
    Walks K (ItzB K k1 k2 a b) I1 ((src.zip src2).map fun p => PyData.tuple [p.1, p.2]) := by
  have l1 := dpAll_len ha
  have l2 := dpAll_len hb
  refine ⟨fun i d e I2 H2 s1 s2 => ?_, fun I2 H2 s1 s2 => ⟨xs, ys, sqB_same (s1.trans s2) hs, sqB_same (s1.trans s2) hs2, ?_⟩⟩
  · obtain ⟨d1, d2, e1, e2, rfl⟩ := dpAll_zip (K := K) (I := I1) e
    obtain ⟨v1, f1, g1⟩ := dpAll_get ha e1
    obtain ⟨v2, f2, g2⟩ := dpAll_get hb e2
    refine ⟨⟨xs, ys, v1, v2, sqB_same (s1.trans s2) hs, sqB_same (s1.trans s2) hs2, f1, f2⟩, ?_⟩
    rintro z H3 ⟨T, x, y, rfl, hT, rfl, hx, hy⟩
    have ex : x = v1 := Option.some.inj ((hx _ (sqB_same (s1.trans s2) hs)).symm.trans f1)
    have ey : y = v2 := Option.some.inj ((hy _ (sqB_same (s1.trans s2) hs2)).symm.trans f2)
    subst ex ey
    have g := Grow.new (o := .tup [x, y]) s2 hT
    exact ⟨_, g, .tup upd_same (.cons (dp_mono (s1.trans g.ii) g1) (.cons (dp_mono (s1.trans g.ii) g2) .nil))⟩
  · rw [List.length_map, List.length_zip, ← l1, ← l2]
    omega
section
variable {X : Cx} {A : List C} {P : Program} {w : World} {K : PySem.W.Frag} {mg : Str → Option Value} {base : Heap} {N : List Str} {sc : Scope} {k : Nat} {pos p : Pos}
/-- zip(e, e2): data, the kinds told -/
theorem zipBF (hX : XF P w K mg base N sc k X) {e e2 : Expr} {tpos : Pos} {elts : List Expr} {kk} (k1 k2 : Bool) {α β : Type} {enc1 : α → PyData} {enc2 : β → PyData} {xs : List α} {ys : List β} (hg : GlS sc "zip") (hm : mg "zip" = none) (h1 : Ev X A e (.dat (if k1 then .list (xs.map enc1) else .tuple (xs.map enc1)))) (h2 : Ev X A e2 (.dat (if k2 then .list (ys.map enc2) else .tuple (ys.map enc2))))
    (hs : starEach (e :: [e2]) X.env = (false, eval e X.env) :: starEach [e2] X.env := by rfl) (hs2 : starEach (e2 :: []) X.env = (false, eval e2 X.env) :: starEach [] X.env := by rfl) (hpl : (backTo pos (starEach [e2] X.env)).any (·.1) = false := by rfl) :
    EvI X A (.Tuple elts kk tpos) (.Call (.Name "zip" p) [e, e2] [] pos) ((xs.zip ys).map fun z => .tuple [enc1 z.1, enc2 z.2]) := by
  have es : ((xs.zip ys).map fun z => PyData.tuple [enc1 z.1, enc2 z.2]) = (((xs.map enc1).zip (ys.map enc2)).map fun p => PyData.tuple [p.1, p.2]) := by
    rw [List.zip_map, List.map_map]
    rfl
  rw [es]
  refine ⟨_, pi_zipB (k1 := k1) (k2 := k2) (hX.gl hg) (by rw [hX.eM]; exact hm) wa_pa hs hpl, fun I0 H0 σ I H rl R q => (ea_cons h1 (ea_cons h2 ea_nil hs2) hs) I0 H0 σ I H rl _ fun vs I1 H1 g hv => ?_⟩
  have both : ∀ {k : Bool} {v : V} {ds : List PyData}, Dp X.K I1 v (if k then .list ds else .tuple ds) → ∃ a xs, v = .ref a ∧ SqB X.K k I1 a xs ∧ DpAll X.K I1 xs ds := by
    intro k v ds h
    cases k with
    | true => exact dp_lst h
    | false => exact dp_tup h
  cases hv with
  | cons a1 b1 => cases b1 with
    | cons a2 b2 =>
      cases b2
      obtain ⟨a, us, rfl, k1', r1⟩ := both a1
      obtain ⟨b, ws, rfl, k2', r2⟩ := both a2
      exact ⟨a, b, us, ws, rfl, sqB_same g.ih k1', sqB_same g.ih k2', q _ I1 H1 g (walks_zipB k1' k2' r1 r2)⟩
/-- for x, y in ..: the state ahead of turn i is inv i -/
theorem forZ (hX : XF P w K mg base N sc k X) {α : Type} {body : List Stmt} {e : Expr} {x y : Str} {px py tpos : Pos} {kk} {src : List PyData} (i j : Nat) (xs : List α) (enc1 enc2 : α → PyData) (inv : Nat → List C) (hi : EvI X A (.Tuple [.Name x px, .Name y py] kk tpos) e src) (hsrc : src = xs.map fun z => .tuple [enc1 z, enc2 z])
    (g1 : PG X (.Name x px) (gName i)) (g2 : PG X (.Name y py) (gName j)) (h0 : LeA A (inv 0)) (hi2 : ∀ n, (inv n)[i]?.isSome = true) (hj2 : ∀ n, (inv n)[j]?.isSome = true)
    (hb : ∀ (n : Nat) (hn : n < xs.length), Sm X (((inv n).set i (.dat (enc1 xs[n]))).set j (.dat (enc2 xs[n]))) body (.nx (inv (n + 1)))) (hs : ∀ x, foldedSetIterable e X.env x = pure x := by intro _; rfl) : S1 X A (.For (.Tuple [.Name x px, .Name y py] kk tpos) e body [] pos) (.nx (inv xs.length)) := by
  subst hsrc
  refine s1_for (g := gTup X.K [i, j].length (gNames [i, j])) (U := uTup [i, j]) hX.pass hX.calm hi (pg_tup (es := [.Name x px, .Name y py]) hX.calm (pgs_cons (e := .Name x px) (es := [.Name y py]) g1 (pgs_cons (e := .Name y py) (es := []) g2 pgs_nil))) tg_tup inv xs.length (by simp) h0 (fun n d hn hd => ?_) (.inl ⟨by simp, rfl⟩) hs
  rw [List.getElem?_map, List.getElem?_eq_getElem hn] at hd
  cases hd
  refine ⟨_, ⟨_, rfl, _, _, rfl, hi2 n, _, _, rfl, ?_, rfl, rfl⟩, hb n hn⟩
  have := hj2 n
  by_cases hij : i = j
  · subst hij
    rw [List.getElem?_set_self (lt_of_some this)]; rfl
  · rw [List.getElem?_set_ne hij]; exact this
/-! xs[lo::st], the step reckoned -/
def tStV (K : PySem.W.Frag) (te tl ts : TE) (c : Int) : TE := fun σ H Q => te σ H fun x H1 => tPart tl σ H1 fun o H2 => tPart ts σ H2 fun o2 H3 => o2 = some c ∧ ∃ a xs, x = .ref a ∧ SqL K H3 a xs ∧ ∀ p, H3 p = none → Q (.ref p) (upd H3 p (.lst (cutS xs o none (some c))))
theorem pe_stepV {e lo st : Expr} {te tl ts : TE} {c : Int} {p3 : Pos} (h0 : c ≠ 0) (he : PE X e te) (hl : PE X lo tl) (hst : PE X st ts) : PE X (.Subscript e (.Slice (some lo) none (some st) p3) pos) (tStV X.K te tl ts c) := by
  refine ⟨fun pins s σ H Q I h => ?_⟩
  refine Subscript_ (thn (he.run pins s σ H _ I h) fun v s1 ⟨x, H1, I1, r1, q1⟩ => ?_)
  refine wpAny_Slice (thn ((po_some hl).run pins s1 σ H1 _ I1 q1) fun vl s2 ⟨l, H2, I2, pl, q2⟩ => ?_)
  refine thn (po_none.run pins s2 σ H2 (fun o H3 => o = none ∧ H3 = H2) I2 ⟨rfl, rfl⟩) fun vu s3 ⟨u, H3, I3, pu, eu, e3⟩ => ?_
  subst eu e3
  refine thn ((po_some hst).run pins s3 σ H3 _ I3 q2) fun vs s4 ⟨o, H4, I4, ps, eo, a, xs, ex, hx, q⟩ => ?_
  subst eo ex
  cases r1
  have I5 : Inv X pins σ H4 { s4 with heap := s4.heap.push { cls := .type "slice", data := .fields #[vl, vu, vs] } } := I4.kept (t' := s4.toks) fun b ob q => Heap.get?_push_of_some _ q
  obtain ⟨its, r, ht, hz⟩ := I5.list hx
  have hlen := r.length
  show wpAny (model X.prog X.w) X.A (subscriptTail e (.Slice (some lo) none (some st) p3) (.ref a) (.ref s4.heap.objs.size)) (EP X pins σ Q) X.xe { s4 with heap := s4.heap.push { cls := .type "slice", data := .fields #[vl, vu, vs] } }
  refine tail_any (ops := [.ref a, .ref s4.heap.objs.size]) ht.isList.typeIs (PySem.slot_list_getitem.lookup) ?_ (by with_unfolding_all rfl)
  refine wpAny_getItem_list_slice ht.isList (Heap.IsSliceOf.new _ vl vu vs) pl pu ps (fun z => h0 (by cases z; rfl)) ?_ (by rw [List.size_toArray]; omega)
  have hsz := slicePick_size_le its.toArray l none (some c)
  rw [cutS_pick] at hsz ⊢
  rw [List.size_toArray, List.size_toArray] at hsz
  have hr : Vals (cutS xs l none (some c)) (cutS its l none (some c)) := by
    unfold cutS
    rw [hlen]
    exact pick_rel r _
  refine ⟨.ref _, _, I5.laid (t' := s4.toks) (o := .lst (cutS xs l none (some c))) (fun b ob q => Heap.get?_push_of_some _ q) (Nat.le_refl _) ?_, rfl, q _ (I5.hok.fresh (Nat.le_refl _))⟩
  exact ⟨by rw [hr.length]; omega, _, 0, hr, Heap.get?_push_size _ rfl⟩
theorem ev_stepV {e lo st : Expr} {l c : Int} {p3 : Pos} {ds : List PyData} (h : EvS X A e true ds) (hl : Ev X A lo (.dat (.int l))) (hc : Ev X A st (.dat (.int c))) (h0 : c ≠ 0) : Ev X A (.Subscript e (.Slice (some lo) none (some st) p3) pos) (.own (.lst (cutS ds (some l) none (some c)))) := fun I0 H0 σ I H rl Q q =>
  wx_of (pe_stepV h0 wx_pe wx_pe wx_pe) (h I0 H0 σ I H rl _ fun p vs I1 H1 g1 hk ha => hl I0 H0 σ I1 H1 (rl.grow g1) _ fun i I2 H2 g2 hi =>
    ⟨l, dp_int hi, hc I0 H0 σ I2 H2 ((rl.grow g1).grow g2) _ fun i2 I3 H3 g3 hi2 => ⟨c, dp_int hi2, rfl, p, vs, rfl, same_l (g2.trans g3).hh hk, fun r hr => by
      have g := (g1.trans g2).trans g3
      have g4 := Grow.newH (o := .lst (cutS vs (some l) none (some c))) g3.ih hr
      refine q _ _ _ (g.trans g4) ⟨r, _, rfl, g.hh.free hr, g3.ih.free hr, upd_same, ?_⟩
      have hd := dpAll_mono (g2.trans g3).ii ha
      show DpAll X.K I3 (cutS vs _ _ _) (cutS ds _ _ _)
      unfold cutS
      rw [dpAll_len hd]
      exact pick_dp hd _⟩⟩)
/-- e.count(k) -/
theorem ev_count {e e2 : Expr} {ns : List Int} {c : Int} {p2 p3 : Pos} (h1 : EvS X A e true (ns.map .int)) (h2 : Ev X A e2 (.dat (.int c))) (hbase : attributeBase e "count" X.env (eval e X.env) = eval e X.env := by rfl) (hs : starEach (e2 :: []) X.env = (false, eval e2 X.env) :: starEach [] X.env := by rfl)
    (hpl : ((backTo p3 (starEach (e2 :: []) X.env)).all (fun x => !x.1) && (backToKw p3 (keywordEach [] X.env)).all (fun x => x.1.isSome) && decide (([e2] : List Expr).length + ([] : List Keyword).length + (if ([] : List Keyword).isEmpty then 0 else 1) < 30)) = true := by rfl) (hline : (p2.endLine == p3.line) = true := by rfl) :
    Ev X A (.Call (.Attribute e "count" p2) [e2] [] p3) (.dat (.int (ns.count c : Nat))) := fun I0 H0 σ I H rl Q q =>
  wx_of (pe_bm PySem.F.plainAttrs_list PySem.F.slot_list_count PySem.F.type_list_count mt_lcount wx_pe (pa_cons wx_pe pa_nil hs) (hbase := hbase) (hfew := hpl) (hline := hline) (hs := hs) (hplain := rfl)) (h1 I0 H0 σ I H rl _ fun a vs I1 H1 g1 hk ha => ⟨.inl ⟨rfl, _, hk⟩, h2 I0 H0 σ I1 H1 (rl.grow g1) _ fun v I2 H2 g2 hv => by
    have hv := dp_int hv
    subst hv
    refine ⟨a, ns, c, rfl, rfl, ?_, q _ I2 H2 (g1.trans g2) (.int _)⟩
    have := ints_of ha
    subst this
    exact same_l g2.hh hk⟩)
/-- e.append(d), e a list of its own -/
theorem s1_appE {e e2 : Expr} {ds : List PyData} {d : PyData} {p2 p3 p4 : Pos} (h1 : Ev X A e (.own (.lst ds))) (h2 : Ev X A e2 (.dat d)) (hz : ds.length < sizeLine) (hbase : attributeBase e "append" X.env (eval e X.env) = eval e X.env := by rfl) (hs : starEach (e2 :: []) X.env = (false, eval e2 X.env) :: starEach [] X.env := by rfl)
    (hpl : ((backTo p3 (starEach (e2 :: []) X.env)).all (fun x => !x.1) && (backToKw p3 (keywordEach [] X.env)).all (fun x => x.1.isSome) && decide (([e2] : List Expr).length + ([] : List Keyword).length + (if ([] : List Keyword).isEmpty then 0 else 1) < 30)) = true := by rfl) (hline : (p2.endLine == p3.line) = true := by rfl)
    (hsw : swapsWith (.Call (.Attribute e "append" p2) [e2] [] p3) none p4.line X.env = pure false := by rfl) : S1 X A (.Expr (.Call (.Attribute e "append" p2) [e2] [] p3) p4) (.nx A) := fun I0 H0 σ I H rl D f =>
  ws_of (ps_expr (pe_bm PySem.F.plainAttrs_list PySem.F.slot_list_append PySem.F.type_list_append mt_append wx_pe (pa_cons wx_pe pa_nil hs) (hbase := hbase) (hfew := hpl) (hline := hline) (hs := hs) (hplain := rfl)) hsw) (h1 I0 H0 σ I H rl _ fun v I1 H1 g1 hv => by
    obtain ⟨a, o, rfl, n0, n1, ho, hb⟩ := hv
    obtain ⟨vs, rfl, ha⟩ := obAt_lst hb
    refine ⟨.inl ⟨rfl, _, .inl (.inl ho)⟩, h2 I0 H0 σ I1 H1 (rl.grow g1) _ fun u I2 H2 g2 hu => ⟨a, vs, u, rfl, rfl, g2.hh _ _ ho, by rw [dpAll_len ha]; exact hz, ?_⟩⟩
    have g := (g1.trans g2).mut (o := .lst (vs ++ [u])) n0 (g2.nw a _ ho n1)
    exact f σ I2 _ g.ii (rl.grow g))
/-- name = [.. for x, y in ..] -/
theorem setLcZ (hX : XF P w K mg base N sc k X) {α : Type} {elt iter : Expr} {scope : Scope} {src : List PyData} {x y z : Str} {px p3 p4 pz spos : Pos} {kk} (l i j : Nat) (xs : List α) (enc1 enc2 : α → PyData) (f : α → PyData) (hi : EvI X A (.Tuple [.Name x px, .Name y p3] kk p4) iter src) (hsrc : src = xs.map fun z => .tuple [enc1 z, enc2 z]) (ok : blkC N sc scope [(x, i), (y, j)] = true)
    (hNi : N[i]? = some x) (hNj : N[j]? = some y) (hx : (relS scope sc).names.lookup x = some .local) (hy : (relS scope sc).names.lookup y = some .local) (hij : i ≠ j) (hz : xs.length < sizeLine) (hi' : A[i]?.isSome = true) (hj : A[j]?.isSome = true)
    (hb : ∀ Y, XF P w K mg base N (relS scope sc) k Y → ∀ z ∈ xs, Ev Y ((((A.set j .un).set i .un).set i (.dat (enc1 z))).set j (.dat (enc2 z))) elt (.dat (f z)))
    (hzN : N[l]? = some z) (hzl : sc.names.lookup z = some .local) (hzj : A[l]?.isSome = true) (hk : sc.kind = .function) (hl : (pz.line == pos.line) = true) (ha : (scope.names.any fun (n, k) => n == z && (k == .local || k == .cell)) = false)
    (hs : ∀ x, foldedSetIterable iter X.env x = pure x := by intro _; rfl) : S1 X A (.Assign [.Name z pz] (.ListComp elt [⟨.Tuple [.Name x px, .Name y p3] kk p4, iter, [], 0⟩] scope pos) spos) (.nx (A.set l (.own (.lst (xs.map f))))) := by
  have l1 := lt_of_some hi'
  have l2 := lt_of_some hj
  have q := s1_setLc (own := [(x, i), (y, j)]) (g := gTup X.K [i, j].length (gNames [i, j])) (U := uTup [i, j]) (A := A) (elt := elt) (ifs := []) (pos := pos) (spos := spos) (py := pz) xs (fun z => .tuple [enc1 z, enc2 z]) (fun _ => true) f hX.calm hX.ndX hi hsrc (by rw [hX.eN, hX.eS]; exact blkOk_by ok)
    (fun s H C cl fp => pg_tup (es := [.Name x px, .Name y p3]) hX.calm (pgs_cons (e := .Name x px) (es := [.Name y p3]) (tgB hX.blk i hNi hx) (pgs_cons (e := .Name y p3) (es := []) (tgB hX.blk j hNj hy) pgs_nil))) tg_tup (tgw_two hij) (Nat.zero_le _) hz
    (fun z hz => ⟨_, ⟨_, rfl, _, _, rfl, by
      show ((((A.set j .un).set i .un))[i]?).isSome = true
      rw [List.getElem?_set_self (by simpa using l1)]; rfl, _, _, rfl, by
      show (((((A.set j .un).set i .un)).set i _)[j]?).isSome = true
      rw [List.getElem?_set_ne hij, List.getElem?_set_ne hij, List.getElem?_set_self l2]; rfl, rfl, rfl⟩, rfl, fun h s H C cl fp => hb _ hX.blk z hz⟩) hs (i := l) (y := z) (by rw [hX.eN]; exact hzN) (by rw [hX.eS]; exact hzl) (sw_true (by rw [hX.eS]; exact hk) (by rw [hX.eS]; exact hzl) hl ha) hzj
  rw [List.filter_eq_self.mpr fun _ _ => rfl] at q
  exact q
/-! xs[::-1] of a list -/
theorem cutS_rev {α : Type} (xs : List α) : cutS xs none none (some (-1)) = xs.reverse := by
  have eb : sliceBounds none none (some (-1)) xs.length = ((xs.length : Int) - 1, -1, -1) := rfl
  unfold cutS
  rw [eb]
  have er : sliceRange ((xs.length : Int) - 1) (-1) (-1) = (List.range xs.length).map fun k : Nat => (((xs.length : Int) - 1) + (-1) * (k : Int)).toNat := by
    unfold sliceRange
    have ec : (if (-1 : Int) > 0 then (if (xs.length : Int) - 1 < -1 then (-1 - ((xs.length : Int) - 1) + (-1) - 1) / (-1) else 0) else (if (xs.length : Int) - 1 > -1 then ((xs.length : Int) - 1 - (-1) - (-1) - 1) / (-(-1)) else 0)).toNat = xs.length := by
      rw [if_neg (by omega)]
      split
      · simp
      · omega
    simp only [ec]
  show ((sliceRange ((xs.length : Int) - 1) (-1) (-1)).filterMap (xs[·]?)) = _
  rw [er, List.filterMap_map, ← rev_pick xs]
  refine fm_congr fun k _ => ?_
  show xs[(((xs.length : Int) - 1) + (-1) * (k : Int)).toNat]? = xs[(((xs.length : Int) - 1) + (k : Int) * (-1)).toNat]?
  congr 1
  omega
def tRevL (K : PySem.W.Frag) (te ts : TE) : TE := fun σ H Q => te σ H fun x H1 => tPart ts σ H1 fun o H2 => o = some (-1) ∧ ∃ a xs, x = .ref a ∧ SqL K H2 a xs ∧ ∀ p, H2 p = none → Q (.ref p) (upd H2 p (.lst xs.reverse))
theorem pe_revL {e st : Expr} {te ts : TE} {p3 : Pos} (he : PE X e te) (hst : PE X st ts) : PE X (.Subscript e (.Slice none none (some st) p3) pos) (tRevL X.K te ts) := by
  refine ⟨fun pins s σ H Q I h => ?_⟩
  refine Subscript_ (thn (he.run pins s σ H _ I h) fun v s1 ⟨x, H1, I1, r1, q1⟩ => ?_)
  refine wpAny_Slice (thn (po_none.run pins s1 σ H1 (fun o H3 => o = none ∧ H3 = H1) I1 ⟨rfl, rfl⟩) fun vl s2 ⟨l, H2, I2, pl, el, e2⟩ => ?_)
  subst el e2
  refine thn (po_none.run pins s2 σ H2 (fun o H3 => o = none ∧ H3 = H2) I2 ⟨rfl, rfl⟩) fun vu s3 ⟨u, H3, I3, pu, eu, e3⟩ => ?_
  subst eu e3
  refine thn ((po_some hst).run pins s3 σ H3 _ I3 q1) fun vs s4 ⟨o, H4, I4, ps, eo, a, xs, ex, hx, q⟩ => ?_
  subst eo ex
  cases r1
  have I5 : Inv X pins σ H4 { s4 with heap := s4.heap.push { cls := .type "slice", data := .fields #[vl, vu, vs] } } := I4.kept (t' := s4.toks) fun b ob q => Heap.get?_push_of_some _ q
  obtain ⟨its, r, ht, hz⟩ := I5.list hx
  have hlen := r.length
  show wpAny (model X.prog X.w) X.A (subscriptTail e (.Slice none none (some st) p3) (.ref a) (.ref s4.heap.objs.size)) (EP X pins σ Q) X.xe { s4 with heap := s4.heap.push { cls := .type "slice", data := .fields #[vl, vu, vs] } }
  refine tail_any (ops := [.ref a, .ref s4.heap.objs.size]) ht.isList.typeIs (PySem.slot_list_getitem.lookup) ?_ (by with_unfolding_all rfl)
  refine wpAny_getItem_list_slice ht.isList (Heap.IsSliceOf.new _ vl vu vs) pl pu ps (fun z => by cases z) ?_ (by rw [List.size_toArray]; omega)
  rw [cutS_pick, cutS_rev]
  have hr := vals_rev r
  refine ⟨.ref _, _, I5.laid (t' := s4.toks) (o := .lst xs.reverse) (fun b ob q => Heap.get?_push_of_some _ q) (Nat.le_refl _) ?_, rfl, q _ (I5.hok.fresh (Nat.le_refl _))⟩
  exact ⟨by rw [List.length_reverse]; exact hz, _, 0, hr, Heap.get?_push_size _ rfl⟩
theorem ev_revL {e st : Expr} {p3 : Pos} {α : Type} {enc : α → PyData} {xs : List α} (h : EvS X A e true (xs.map enc)) (hc : Ev X A st (.dat (.int (-1)))) : Ev X A (.Subscript e (.Slice none none (some st) p3) pos) (.own (.lst (xs.reverse.map enc))) := fun I0 H0 σ I H rl Q q =>
  wx_of (pe_revL wx_pe wx_pe) (h I0 H0 σ I H rl _ fun p vs I1 H1 g1 hk ha => hc I0 H0 σ I1 H1 (rl.grow g1) _ fun i2 I3 H3 g3 hi2 => ⟨-1, dp_int hi2, rfl, p, vs, rfl, same_l g3.hh hk, fun r hr => by
      have g := g1.trans g3
      have g4 := Grow.newH (o := .lst vs.reverse) g3.ih hr
      refine q _ _ _ (g.trans g4) ⟨r, _, rfl, g.hh.free hr, g3.ih.free hr, upd_same, ?_⟩
      show DpAll X.K I3 vs.reverse _
      rw [List.map_reverse]
      exact dpAll_reverse (dpAll_mono g3.ii ha)⟩)
/-! xs + ys of lists that are read -/
def rCatQ (K : PySem.W.Frag) : R2 := fun x y H Q => ∃ l b xs zs, x = .ref l ∧ y = .ref b ∧ SqL K H l xs ∧ SqL K H b zs ∧ xs.length + zs.length ≤ sizeLine ∧ ∀ p, H p = none → Q (.ref p) (upd H p (.lst (xs ++ zs)))
theorem op_catQ : OpR X (binaryOp .Add) (rCatQ X.K) := by
  intro pins s σ H x y v u Q I rx ry h
  obtain ⟨l, b, xs, zs, rfl, rfl, hH, hB, hz, q⟩ := h
  cases rx
  cases ry
  obtain ⟨its, r, ⟨⟨cls, dd, data, sl⟩, n, ho, hc, hdn, hd⟩, hl⟩ := I.list hH
  obtain ⟨its2, r2, ⟨⟨cls2, dd2, data2, sl2⟩, n2, ho2, hc2, hdn2, hd2⟩, hl2⟩ := I.list hB
  simp only at hc hd hc2 hd2
  subst hc hd hc2 hd2
  have e1 := r.length
  have e2 := r2.length
  refine concat_meets ⟨_, ho, rfl⟩ ⟨_, ho2, rfl⟩ PySem.noFill_list_add PySem.seq_list_add PySem.F.slot_list_add PySem.F.entry_list_add (PySem.F.args_list_add_2 _ _) (PyProof.Rows.list_addW l b its.toArray its2.toArray n n2 dd dd2 sl sl2 (by rw [List.size_toArray, List.size_toArray]; omega)) ⟨ho, ho2, ?_⟩
  have ea : its.toArray ++ its2.toArray = (its ++ its2).toArray := by simp
  rw [ea]
  exact ⟨.ref _, _, I.lnew (t' := s.toks) (r.append r2) (by rw [List.length_append]; omega), rfl, q _ I.fresh⟩
theorem ev_catS {a b : Expr} {ds es : List PyData} (h1 : EvS X A a true ds) (h2 : EvS X A b true es) (hz : ds.length + es.length ≤ sizeLine) : Ev X A (.BinOp a .Add b pos) (.own (.lst (ds ++ es))) := fun I0 H0 σ I H rl Q q =>
  wx_of (pe_op op_catQ wx_pe wx_pe) (h1 I0 H0 σ I H rl _ fun p xs I1 H1 g1 hp ha => h2 I0 H0 σ I1 H1 (rl.grow g1) _ fun p2 ys I2 H2 g2 hp2 hb =>
    ⟨p, p2, xs, ys, rfl, rfl, same_l g2.hh hp, hp2, by rw [dpAll_len ha, dpAll_len hb]; exact hz, fun l hl => by
      have g3 := Grow.newH (o := .lst (xs ++ ys)) g2.ih hl
      exact q _ _ _ ((g1.trans g2).trans g3) ⟨l, _, rfl, (g1.trans g2).hh.free hl, g2.ih.free hl, upd_same, dpAll_append (dpAll_mono g2.ii ha) hb⟩⟩)
end
end LR

set_option Elab.async false
set_option linter.all false
set_option maxRecDepth 100000
set_option maxHeartbeats 4000000
/-! The layer LR, part t: a def called with an own list that stays an own list. -/
namespace LR
open PySem PySem.Spec PyProof.Rows L2

mutual
/-- no list within -/
def noL : PyData → Bool
  | .list _ => false
  | .tuple xs => noLs xs
  | .dict _ => false
  | _ => true
def noLs : List PyData → Bool
  | [] => true
  | x :: r => noL x && noLs r
end
def forget (I : Hp) (p : Addr) : Hp := fun b => if b = p then none else I b
section
variable {K : PySem.W.Frag}
mutual
theorem dp_forget {I : Hp} {p : Addr} {us : List V} (hp : I p = some (.lst us)) : ∀ {v : V} {d : PyData}, Dp K I v d → noL d = true → Dp K (forget I p) v d
  | _, _, .non, _ => .non
  | _, _, .bl b, _ => .bl b
  | _, _, .int i, _ => .int i
  | _, _, .str x, _ => .str x
  | _, _, .lst h a, n => by simp [noL] at n
  | _, _, .dic h, n => by simp [noL] at n
  | _, _, .tup h a, n => by
    simp only [noL] at n
    have keep : ∀ b o, I b = some o → (∀ us, o ≠ .lst us) → forget I p b = some o := fun b o e ho => by
      unfold forget
      rw [if_neg]
      · exact e
      · rintro rfl
        rw [hp] at e
        exact ho us (Option.some.inj e).symm
    exact .tup (keep _ _ h fun _ z => by cases z) (dpAll_forget hp a n)
theorem dpAll_forget {I : Hp} {p : Addr} {us : List V} (hp : I p = some (.lst us)) : ∀ {vs : List V} {ds : List PyData}, DpAll K I vs ds → noLs ds = true → DpAll K (forget I p) vs ds
  | _, _, .nil, _ => .nil
  | _, _, .cons h t, n => by
    simp only [noLs, Bool.and_eq_true] at n
    exact .cons (dp_forget hp h n.1) (dpAll_forget hp t n.2)
end
end
section
variable {X : Cx} {A : List C} {pos p p2 : Pos} {x y : Str}
/-- f(xs), xs an own list that is read alone; the result is a new list without lists in it -/
theorem ev_callOwn {k : Nat} {ps : List Str} {R : List PyData → Res → Prop} {ds es : List PyData} (j : Nat) (G : Fn X.prog X.w X.K X.mg X.base k x ps R) (hr : Room k X.A) (hg : Gl X x) (hN : X.N[j]? = some y) (hA : A[j]? = some (.own (.lst ds))) (hv : Vis X.env.scope y) (h : R [.list ds] (.ok (.own (.lst es)))) (hn : noLs es = true)
    (hd : (y == ("__debug__" : Str)) = false) (hcd : (y == ("__classdict__" : Str)) = false) (hdb : (x == ("__debug__" : Str)) = false)
    (he : starEach (.Name y p2 :: []) X.env = (false, eval (.Name y p2) X.env) :: starEach [] X.env := by rfl) (hpl : (backTo pos (starEach [] X.env)).any (·.1) = false := by rfl) : Ev X A (.Call (.Name x p) [.Name y p2] [] pos) (.own (.lst es)) := fun I0 H0 σ I H rl Q q => by
  obtain ⟨f, fd, F, hm, hk, hb, _⟩ := G.ex
  obtain ⟨a, o, e1, n0, n, ho, hob⟩ := rl.cell j _ hA
  obtain ⟨vs, rfl, ha⟩ := obAt_lst hob
  have s1 : Same I (upd I a (.lst vs)) := fun b u e => by rw [upd_ne (ne_of_none e n)]; exact e
  refine wx_of (pe_call F hr hg hm hk hb .nil passL (pa_cons (pe_var hN hv hd hcd) pa_nil he) hdb he hpl) ⟨.ref a, e1, ?_⟩
  show Spec X.K X.mg R ([.ref a] ++ []) H Q E0
  refine ⟨upd I a (.lst vs), [.list ds], .ok (.own (.lst es)), fun b u e => ?_, .cons (.lst (.inl (.inl upd_same)) (dpAll_mono s1 ha)) .nil, h, fun v I2 H2 g hv2 => ?_⟩
  · by_cases hb2 : b = a
    · subst hb2; rw [upd_same] at e; rw [← e]; exact ho
    · rw [upd_ne hb2] at e; exact rl.ih b u e
  · have h2 : I2 a = some (.lst vs) := g.ii a _ upd_same
    obtain ⟨c, o2, rfl, m0, m1, m2, hob2⟩ := hv2
    obtain ⟨us, rfl, hus⟩ := obAt_lst hob2
    have fne : ∀ b, b ≠ a → forget I2 a b = I2 b := fun b hb2 => if_neg hb2
    have fa : forget I2 a a = none := if_pos rfl
    refine q _ (forget I2 a) H2 ⟨fun b u e => ?_, g.hh, fun b u e => ?_, fun b u e1 e2 => ?_⟩ ⟨c, _, rfl, m0, ?_, m2, dpAll_forget h2 hus hn⟩
    · have hb2 : b ≠ a := ne_of_none e n
      rw [fne b hb2]
      exact g.ii b u (by rw [upd_ne hb2]; exact e)
    · by_cases hb2 : b = a
      · subst hb2; rw [fa] at e; cases e
      · rw [fne b hb2] at e; exact g.ih b u e
    · by_cases hb2 : b = a
      · subst hb2; exact fa
      · rw [fne b hb2]
        exact g.nw b u e1 (by rw [upd_ne hb2]; exact e2)
    · by_cases hb2 : c = a
      · subst hb2; exact fa
      · rw [fne c hb2]; exact m1
end
end LR

set_option Elab.async false
set_option linter.all false
set_option maxRecDepth 100000
set_option maxHeartbeats 4000000
/-! The layer LR, part u: sum of a tuple. -/
namespace LR
open PySem PySem.Spec PyProof.Rows L2
section
variable {P : Program} {w : World} {K : PySem.W.Frag} {mg : Str → Option Value} {base : Heap} {N : List Str} {sc : Scope} {k : Nat} {X : Cx} {A : List C} {pos p : Pos} {x : Str}
theorem sumT_raw {A : Around} {E : Value → Shared → Prop} {s : Shared} {t : Addr} {its : List Value} {ns : List Int} {Q : Value → Shared → Prop} (hh : A.handled = none) (hl : s.heap.IsTuple t its.toArray) (hi : IntsAre its ns)
    (h : ∀ h' tk t', (∀ b o, s.heap.get? b = some o → h'.get? b = some o) → Q (.int ns.sum t') { s with heap := h', toks := tk }) : wpAny (model P w) A (call (.builtin "sum") [.ref t]) Q E s := by
  obtain ⟨xs, e⟩ := hi.allInts.items
  have hn : numsOf (intItems xs).toList = ns := by rw [← e]; exact hi.numsOf
  rw [nums_intItems] at hn
  rw [e] at hl
  refine PySem.W.ktm_sumG hh hl fun h' tk t' hk => ?_
  have := h h' tk t' hk
  rw [preSum_eq, List.take_of_length_le (by simp), hn]; exact this
def rSumT (K : PySem.W.Frag) : List V → Hp → VK → Prop := fun vs H Q => ∃ (a : Addr) (ns : List Int), vs = [V.ref a] ∧ SqT K H a (ns.map V.int) ∧ Q (.int ns.sum) H
theorem cr_sumT (hc : X.calm = true) : CallR X (.builtin "sum") (rSumT X.K) := by
  intro pins s σ H vs us Q I r h
  obtain ⟨a, ns, rfl, hs, q⟩ := h
  obtain ⟨its, rv, hl, _⟩ := I.tuple hs
  rw [Vals.ref1 r]
  exact sumT_raw (I.ok.hd hc) hl rv.ints fun h' tk t' hk => ⟨.int _, H, I.kept hk, ⟨_, rfl⟩, q⟩
/-- sum(xs) of a tuple of whole numbers -/
theorem sumTF (hX : XF P w K mg base N sc k X) {e : Expr} {ns : List Int} (hg : GlS sc "sum") (hm : mg "sum" = none) (h : Ev X A e (.dat (.tuple (ns.map .int)))) (hb : bootBuiltins "sum" = some (.builtin "sum") := by decide +kernel) (hs : starEach (e :: []) X.env = (false, eval e X.env) :: starEach [] X.env := by rfl) :
    Ev X A (.Call (.Name "sum" p) [e] [] pos) (.dat (.int ns.sum)) := fun I0 H0 σ I H rl Q q =>
  wx_of (pe_callB (cr_sumT hX.calm) (hX.gl hg) (by rw [hX.eM]; exact hm) hb (pa_cons wx_pe pa_nil hs) (by decide) (by decide) hs rfl) (h I0 H0 σ I H rl _ fun v I1 H1 g hv => by
    obtain ⟨a, vs, rfl, hk, ha⟩ := dp_tup (show Dp X.K I1 v (.tuple _) from hv)
    exact ⟨a, ns, rfl, by rw [← ints_of ha]; exact same_t g.ih hk, q _ I1 H1 g (Dp.int _)⟩)
end
end LR

set_option Elab.async false
set_option linter.all false
set_option maxRecDepth 100000
set_option maxHeartbeats 4000000
/-! The layer LR, part v: the def's own dicts: {}, d[k] = v, k in d, d[k], sorted(d). -/
namespace LR
open PySem PySem.Spec PyProof.Rows L2
section
variable {κ β : Type} [DecidableEq κ]
/-- in its place, or at the end -/
def putE (es : List (κ × β)) (k : κ) (d : β) : List (κ × β) := if (es.any fun e => decide (e.1 = k)) = true then es.map (fun e => if e.1 = k then (e.1, d) else e) else es ++ [(k, d)]
def valE (es : List (κ × β)) (k : κ) : Option β := (es.find? fun e => decide (e.1 = k)).map (·.2)
theorem any_keys {γ : Type} : ∀ {es : List (κ × β)} {fs : List (κ × γ)} (k : κ), es.map (·.1) = fs.map (·.1) → (es.any fun e => decide (e.1 = k)) = fs.any fun e => decide (e.1 = k)
  | [], [], _, _ => rfl
  | [], _ :: _, _, h => by simp at h
  | _ :: _, [], _, h => by simp at h
  | a :: es, b :: fs, k, h => by
    simp only [List.map_cons, List.cons.injEq] at h
    rw [List.any_cons, List.any_cons, any_keys k h.2, h.1]
theorem keys_repl (es : List (κ × β)) (k : κ) (d : β) : (es.map fun e => if e.1 = k then (e.1, d) else e).map (·.1) = es.map (·.1) := by
  rw [List.map_map]
  refine List.map_congr_left fun e _ => ?_
  show (if e.1 = k then (e.1, d) else e).1 = e.1
  split <;> rfl
theorem keys_putE (es : List (κ × β)) (k : κ) (d : β) : (putE es k d).map (·.1) = if (es.any fun e => decide (e.1 = k)) = true then es.map (·.1) else es.map (·.1) ++ [k] := by
  unfold putE
  split
  · exact keys_repl es k d
  · rw [List.map_append]; rfl
theorem putK_putE {kvs : List (κ × V)} {k : κ} {v : V} : putK kvs k v = putE kvs k v := rfl
theorem valV_valE {kvs : List (κ × V)} {k : κ} : valV kvs k = valE kvs k := rfl
theorem len_putE (es : List (κ × β)) (k : κ) (d : β) : (putE es k d).length ≤ es.length + 1 := by
  unfold putE
  split
  · rw [List.length_map]; omega
  · rw [List.length_append]; exact Nat.le_refl _
variable {K : PySem.W.Frag} {I : Hp}
theorem dp_repl {v : V} {d : PyData} (k : κ) (hv : Dp K I v d) : ∀ {kvs : List (κ × V)} {es : List (κ × PyData)}, kvs.map (·.1) = es.map (·.1) → DpAll K I (kvs.map (·.2)) (es.map (·.2)) →
    DpAll K I ((kvs.map fun e => if e.1 = k then (e.1, v) else e).map (·.2)) ((es.map fun e => if e.1 = k then (e.1, d) else e).map (·.2))
  | [], [], _, _ => .nil
  | [], _ :: _, h, _ => by simp at h
  | _ :: _, [], h, _ => by simp at h
  | a :: kvs, b :: es, h, hd => by
    simp only [List.map_cons, List.cons.injEq] at h
    rw [List.map_cons, List.map_cons] at hd
    cases hd with
    | cons h1 h2 =>
      simp only [List.map_cons]
      refine .cons ?_ (dp_repl k hv h.2 h2)
      rw [h.1]
      by_cases e : b.1 = k
      · rw [if_pos e, if_pos e]; exact hv
      · rw [if_neg e, if_neg e]; exact h1
theorem dp_put {v : V} {d : PyData} (k : κ) (hv : Dp K I v d) {kvs : List (κ × V)} {es : List (κ × PyData)} (hk : kvs.map (·.1) = es.map (·.1)) (hd : DpAll K I (kvs.map (·.2)) (es.map (·.2))) :
    (putE kvs k v).map (·.1) = (putE es k d).map (·.1) ∧ DpAll K I ((putE kvs k v).map (·.2)) ((putE es k d).map (·.2)) := by
  refine ⟨by rw [keys_putE, keys_putE, any_keys k hk, hk], ?_⟩
  unfold putE
  rw [any_keys k hk]
  split
  · exact dp_repl k hv hk hd
  · rw [List.map_append, List.map_append]
    exact dpAll_append hd (.cons hv .nil)
theorem dp_val (k : κ) : ∀ {kvs : List (κ × V)} {es : List (κ × PyData)}, kvs.map (·.1) = es.map (·.1) → DpAll K I (kvs.map (·.2)) (es.map (·.2)) → ∀ {d : PyData}, valE es k = some d → ∃ v, valE kvs k = some v ∧ Dp K I v d
  | [], [], _, _, d, h => by simp [valE] at h
  | [], _ :: _, h, _, _, _ => by simp at h
  | _ :: _, [], h, _, _, _ => by simp at h
  | a :: kvs, b :: es, h, hd, d, hv => by
    simp only [List.map_cons, List.cons.injEq] at h
    rw [List.map_cons, List.map_cons] at hd
    cases hd with
    | cons h1 h2 =>
      unfold valE at hv ⊢
      rw [List.find?_cons] at hv ⊢
      rw [h.1]
      by_cases e : b.1 = k
      · rw [decide_eq_true e] at hv ⊢
        cases hv
        exact ⟨_, rfl, h1⟩
      · rw [decide_eq_false e] at hv ⊢
        exact dp_val k h.2 h2 hv
theorem some_keys {γ : Type} (k : κ) : ∀ {es : List (κ × β)} {fs : List (κ × γ)}, es.map (·.1) = fs.map (·.1) → (valE es k).isSome = (valE fs k).isSome
  | [], [], _ => rfl
  | [], _ :: _, h => by simp at h
  | _ :: _, [], h => by simp at h
  | a :: es, b :: fs, h => by
    simp only [List.map_cons, List.cons.injEq] at h
    unfold valE
    rw [List.find?_cons, List.find?_cons, h.1]
    by_cases e : b.1 = k
    · rw [decide_eq_true e]; rfl
    · rw [decide_eq_false e]; exact some_keys k h.2
theorem val_none {es : List (κ × β)} {k : κ} (h : k ∉ es.map (·.1)) : valE es k = none := by
  unfold valE
  rw [List.find?_eq_none.mpr]
  · rfl
  · intro e he z
    exact h (List.mem_map.mpr ⟨e, he, of_decide_eq_true z⟩)
theorem val_some_iff (es : List (κ × β)) (k : κ) : (valE es k).isSome = decide (k ∈ es.map (·.1)) := by
  by_cases h : k ∈ es.map (·.1)
  · rw [decide_eq_true h]
    obtain ⟨e, he, e1⟩ := List.mem_map.mp h
    unfold valE
    rw [Option.isSome_map, List.find?_isSome]
    exact ⟨e, he, decide_eq_true e1⟩
  · rw [decide_eq_false h, val_none h]; rfl
end
theorem obAt_dct {K : PySem.W.Frag} {I : Hp} {o : HO} {es : List (Key × PyData)} (h : ObAt K I o (.dct es)) : ∃ kvs : List (Key × V), o = .dK kvs ∧ kvs.map (·.1) = es.map (·.1) ∧ DpAll K I (kvs.map (·.2)) (es.map (·.2)) := by
  cases o with
  | dK kvs => exact ⟨kvs, rfl, h⟩
  | _ => exact h.elim
theorem obAt_dtt {K : PySem.W.Frag} {I : Hp} {o : HO} {es : List (List Key × PyData)} (h : ObAt K I o (.dtt es)) : ∃ kvs : List (List Key × V), o = .dT kvs ∧ kvs.map (·.1) = es.map (·.1) ∧ DpAll K I (kvs.map (·.2)) (es.map (·.2)) := by
  cases o with
  | dT kvs => exact ⟨kvs, rfl, h⟩
  | _ => exact h.elim
abbrev kI (xs : List Int) : List Key := xs.map Sum.inl
theorem kV_kI (xs : List Int) : (kI xs).map kV = xs.map V.int := by rw [List.map_map]; rfl
section
variable {P : Program} {w : World} {K : PySem.W.Frag} {mg : Str → Option Value} {base : Heap} {N : List Str} {sc : Scope} {k : Nat}
variable {X : Cx} {e a b : Expr} {es : List Expr} {A : List C} {pos p p2 : Pos} {x : Str}
/-- {} -/
theorem ev_dct : Ev X A (.Dict [] [] pos) (.own (.dct [])) := fun I0 H0 σ I H rl Q q =>
  wx_of pe_dnewK fun p hp => by
    have g2 := Grow.newH (o := .dK []) rl.ih hp
    exact q _ _ _ g2 ⟨p, .dK [], rfl, hp, rl.ih.free hp, upd_same, rfl, .nil⟩
theorem ev_dtt : Ev X A (.Dict [] [] pos) (.own (.dtt [])) := fun I0 H0 σ I H rl Q q =>
  wx_of pe_dnewT fun p hp => by
    have g2 := Grow.newH (o := .dT []) rl.ih hp
    exact q _ _ _ g2 ⟨p, .dT [], rfl, hp, rl.ih.free hp, upd_same, rfl, .nil⟩
variable (hX : XF P w K mg base N sc k X)
include hX
/-- d[k] = e, k a whole number -/
theorem dputF (j : Nat) {es : List (Key × PyData)} {d : PyData} {i : Int} {ix : Expr} {p3 p4 : Pos} (hN : N[j]? = some x) (hA : A[j]? = some (.own (.dct es))) (hv : Vis sc x) (he : Ev X A e (.dat d)) (hi : Ev X A ix (.dat (.int i))) (hz : es.length < sizeLine) (hd : (x == ("__debug__" : Str)) = false) (hcd : (x == ("__classdict__" : Str)) = false)
    (hs : swapsWith e (some (.Subscript (.Name x p3) ix p4)) pos.line X.env = pure false := by rfl) : S1 X A (.Assign [.Subscript (.Name x p3) ix p4] e pos) (.nx (A.set j (.own (.dct (putE es (.inl i) d))))) := fun I0 H0 σ I H rl D f => by
  obtain ⟨q, o, e1, n0, n, ho, hb⟩ := rl.cell j _ hA
  obtain ⟨kvs, rfl, hk1, hv1⟩ := obAt_dct hb
  refine ws_of (ps_dput (by have := hX.room.un; omega) (pe_var (by rw [hX.eN]; exact hN) (hX.vis hv) hd hcd) wx_pe wx_pe hs) ?_
  refine he I0 H0 σ I H rl _ fun v I1 H1 g1 hd1 => ⟨.ref q, e1, ?_⟩
  refine hi I0 H0 σ I1 H1 (rl.grow g1) _ fun u I2 H2 g2 hu => ?_
  have g := g1.trans g2
  have n1 := g.nw q _ ho n
  refine ⟨q, _, rfl, .inl ⟨kvs, .inl i, g.hh _ _ ho, dp_int hu, ?_, rfl⟩, ?_⟩
  · have := congrArg List.length hk1
    rw [List.length_map, List.length_map] at this
    omega
  · exact f σ I2 _ g.ii (rel_mut (rl.grow g) hA e1 n0 n1 (dp_put (K := X.K) (I := I2) _ (dp_mono g2.ii hd1) hk1 (dpAll_mono g.ii hv1)))
/-- d[k] = e, k a tuple of whole numbers -/
theorem dputTF (j : Nat) {es : List (List Key × PyData)} {d : PyData} {ks : List Int} {ix : Expr} {p3 p4 : Pos} (hN : N[j]? = some x) (hA : A[j]? = some (.own (.dtt es))) (hv : Vis sc x) (he : Ev X A e (.dat d)) (hi : Ev X A ix (.dat (tI ks))) (hz : es.length < sizeLine) (hd : (x == ("__debug__" : Str)) = false) (hcd : (x == ("__classdict__" : Str)) = false)
    (hs : swapsWith e (some (.Subscript (.Name x p3) ix p4)) pos.line X.env = pure false := by rfl) : S1 X A (.Assign [.Subscript (.Name x p3) ix p4] e pos) (.nx (A.set j (.own (.dtt (putE es (kI ks) d))))) := fun I0 H0 σ I H rl D f => by
  obtain ⟨q, o, e1, n0, n, ho, hb⟩ := rl.cell j _ hA
  obtain ⟨kvs, rfl, hk1, hv1⟩ := obAt_dtt hb
  refine ws_of (ps_dput (by have := hX.room.un; omega) (pe_var (by rw [hX.eN]; exact hN) (hX.vis hv) hd hcd) wx_pe wx_pe hs) ?_
  refine he I0 H0 σ I H rl _ fun v I1 H1 g1 hd1 => ⟨.ref q, e1, ?_⟩
  refine hi I0 H0 σ I1 H1 (rl.grow g1) _ fun u I2 H2 g2 hu => ?_
  have g := g1.trans g2
  have n1 := g.nw q _ ho n
  obtain ⟨r, us, rfl, hr, ha⟩ := dp_tupH (show Dp X.K I2 u (.tuple (ks.map .int)) from hu)
  rw [ints_of ha] at hr
  refine ⟨q, _, rfl, .inr ⟨kvs, kI ks, r, g.hh _ _ ho, rfl, by rw [kV_kI]; exact g2.ih _ _ hr, ?_, rfl⟩, ?_⟩
  · have := congrArg List.length hk1
    rw [List.length_map, List.length_map] at this
    omega
  · exact f σ I2 _ g.ii (rel_mut (rl.grow g) hA e1 n0 n1 (dp_put (K := X.K) (I := I2) _ (dp_mono g2.ii hd1) hk1 (dpAll_mono g.ii hv1)))
/-- k in d -/
theorem inTF (j : Nat) {es : List (List Key × PyData)} {ks : List Int} {ix : Expr} {p3 : Pos} (hN : N[j]? = some x) (hA : A[j]? = some (.own (.dtt es))) (hv : Vis sc x) (hi : Ev X A ix (.dat (tI ks))) (hd : (x == ("__debug__" : Str)) = false) (hcd : (x == ("__classdict__" : Str)) = false) :
    Ev X A (.Compare ix [.In] [.Name x p3] pos) (.dat (.bool ((valE es (kI ks)).isSome))) := fun I0 H0 σ I H rl Q q' => by
  obtain ⟨q, o, e1, n0, n, ho, hb⟩ := rl.cell j _ hA
  obtain ⟨kvs, rfl, hk1, hv1⟩ := obAt_dtt hb
  refine wx_of (pe_cmp (pc_din (by have := hX.room.un; omega) wx_pe (pe_var (by rw [hX.eN]; exact hN) (hX.vis hv) hd hcd))) ?_
  refine hi I0 H0 σ I H rl _ fun u I2 H2 g hu => ⟨.ref q, e1, ?_⟩
  obtain ⟨r, us, rfl, hr, ha⟩ := dp_tupH (show Dp X.K I2 u (.tuple (ks.map .int)) from hu)
  rw [ints_of ha] at hr
  refine ⟨q, _, rfl, .inr ⟨kvs, kI ks, r, .inl (g.hh _ _ ho), rfl, by rw [kV_kI]; exact g.ih _ _ hr, rfl⟩, q' _ I2 H2 g ?_⟩
  rw [valV_valE, some_keys (kI ks) hk1]
  exact Dp.bl _
theorem etInTF (j : Nat) {es : List (List Key × PyData)} {ks : List Int} {ix : Expr} {p3 : Pos} (hN : N[j]? = some x) (hA : A[j]? = some (.own (.dtt es))) (hv : Vis sc x) (hi : Ev X A ix (.dat (tI ks))) (hd : (x == ("__debug__" : Str)) = false) (hcd : (x == ("__classdict__" : Str)) = false) :
    Et X A (.Compare ix [.In] [.Name x p3] pos) ((valE es (kI ks)).isSome) := fun I0 H0 σ I H rl Q q' => by
  obtain ⟨q, o, e1, n0, n, ho, hb⟩ := rl.cell j _ hA
  obtain ⟨kvs, rfl, hk1, hv1⟩ := obAt_dtt hb
  refine wt_of (pt_cmp (pc_din (by have := hX.room.un; omega) wx_pe (pe_var (by rw [hX.eN]; exact hN) (hX.vis hv) hd hcd))) ?_
  refine hi I0 H0 σ I H rl _ fun u I2 H2 g hu => ⟨.ref q, e1, ?_⟩
  obtain ⟨r, us, rfl, hr, ha⟩ := dp_tupH (show Dp X.K I2 u (.tuple (ks.map .int)) from hu)
  rw [ints_of ha] at hr
  refine ⟨q, _, rfl, .inr ⟨kvs, kI ks, r, .inl (g.hh _ _ ho), rfl, by rw [kV_kI]; exact g.ih _ _ hr, rfl⟩, _, rfl, ?_⟩
  rw [valV_valE, some_keys (kI ks) hk1]
  exact q' I2 H2 g
/-- d[k], there -/
theorem dgetTF (j : Nat) {es : List (List Key × PyData)} {ks : List Int} {d : PyData} {ix : Expr} {p3 : Pos} (hN : N[j]? = some x) (hA : A[j]? = some (.own (.dtt es))) (hv : Vis sc x) (hi : Ev X A ix (.dat (tI ks))) (hval : valE es (kI ks) = some d) (hd : (x == ("__debug__" : Str)) = false) (hcd : (x == ("__classdict__" : Str)) = false) (hns : NoSl ix) :
    Ev X A (.Subscript (.Name x p3) ix pos) (.dat d) := fun I0 H0 σ I H rl Q q' => by
  obtain ⟨q, o, e1, n0, n, ho, hb⟩ := rl.cell j _ hA
  obtain ⟨kvs, rfl, hk1, hv1⟩ := obAt_dtt hb
  refine wx_of (pe_dget (by have := hX.room.un; omega) (pe_var (by rw [hX.eN]; exact hN) (hX.vis hv) hd hcd) wx_pe hns) ?_
  refine ⟨.ref q, e1, ?_⟩
  refine hi I0 H0 σ I H rl _ fun u I2 H2 g hu => ?_
  obtain ⟨r, us, rfl, hr, ha⟩ := dp_tupH (show Dp X.K I2 u (.tuple (ks.map .int)) from hu)
  rw [ints_of ha] at hr
  obtain ⟨v, v1, v2⟩ := dp_val (kI ks) hk1 hv1 hval
  exact ⟨q, v, rfl, .inr ⟨kvs, kI ks, r, .inl (g.hh _ _ ho), rfl, by rw [kV_kI]; exact g.ih _ _ hr, v1.symm⟩, q' _ I2 H2 g (dp_mono g.ii v2)⟩
/-- sorted(d), the keys whole numbers -/
theorem sortedDF (j : Nat) {es : List (Key × PyData)} {ks : List Int} {p3 : Pos} (hg : GlS sc "sorted") (hm : mg "sorted" = none) (hN : N[j]? = some x) (hA : A[j]? = some (.own (.dct es))) (hv : Vis sc x) (hk : es.map (·.1) = ks.map Sum.inl) (hz : ks.length < 64) (hd : (x == ("__debug__" : Str)) = false) (hcd : (x == ("__classdict__" : Str)) = false)
    (hs : starEach (.Name x p3 :: []) X.env = (false, eval (.Name x p3) X.env) :: starEach [] X.env := by rfl) (hb : bootBuiltins "sorted" = some (.builtin "sorted") := by decide +kernel) :
    Ev X A (.Call (.Name "sorted" p) [.Name x p3] [] pos) (.own (.lst ((ks.mergeSort fun a b => decide (a ≤ b)).map .int))) := fun I0 H0 σ I H rl Q q' => by
  obtain ⟨q, o, e1, n0, n, ho, hb'⟩ := rl.cell j _ hA
  obtain ⟨kvs, rfl, hk1, hv1⟩ := obAt_dct hb'
  refine wx_of (pe_callB (call_sortedDI hX.calm) (hX.gl hg) (by rw [hX.eM]; exact hm) hb (pa_cons (pe_var (by rw [hX.eN]; exact hN) (hX.vis hv) hd hcd) pa_nil hs) (by decide) (by decide) hs rfl) ?_
  refine ⟨.ref q, e1, q, kvs, ks, rfl, .inl ho, hk1.trans hk, hz, fun ys p' hp' hs' hn' => ?_⟩
  have e : ys = ks.mergeSort fun a b => decide (a ≤ b) := by
    refine List.Perm.eq_of_pairwise (le := fun a b : Int => a ≤ b) (fun a b _ _ h1 h2 => Int.le_antisymm h1 h2) hs' ?_ (hp'.trans (List.mergeSort_perm ks _).symm)
    have := List.pairwise_mergeSort (le := fun a b : Int => decide (a ≤ b)) (fun a b c h1 h2 => decide_eq_true (Int.le_trans (of_decide_eq_true h1) (of_decide_eq_true h2))) (fun a b => by
      simp only [Bool.or_eq_true, decide_eq_true_eq]; omega) ks
    exact this.imp fun h => of_decide_eq_true h
  subst e
  have g2 := Grow.newH (o := .lst ((ks.mergeSort fun a b => decide (a ≤ b)).map V.int)) rl.ih hn'
  exact q' _ _ _ g2 ⟨p', _, rfl, hn', rl.ih.free hn', upd_same, dpAll_ints _⟩
end
end LR

set_option Elab.async false
set_option linter.all false
set_option maxRecDepth 100000
set_option maxHeartbeats 4000000
/-! The layer LR, part w: xs.index(d) of encoded data; whole numbers and texts of the module. -/
namespace LR
open PySem PySem.Spec PyProof.Rows L2
/-- the module's name x is a whole number, a text -/
def MI (mg : Str → Option Value) (x : Str) (i : Int) : Prop := ∃ t, mg x = some (.int i t)
def MT (mg : Str → Option Value) (x : Str) (z : Str) : Prop := ∃ t, mg x = some (.str z t)
section
variable {P : Program} {w : World} {K : PySem.W.Frag} {mg : Str → Option Value} {base : Heap} {N : List Str} {sc : Scope} {k : Nat}
variable {X : Cx} {e a b : Expr} {es : List Expr} {A : List C} {pos p p2 p3 : Pos} {x : Str}
variable (hX : XF P w K mg base N sc k X)
include hX
theorem gIntF {i : Int} (hg : GlS sc x) (hm : MI mg x i) (hd : (x == ("__debug__" : Str)) = false) : Ev X A (.Name x pos) (.dat (.int i)) := fun I0 H0 σ I H rl Q q => by
  obtain ⟨t, ht⟩ := hm
  exact wx_of (pe_glob (X := X) (v := .int i) (hX.gl hg) (by rw [hX.eM]; exact ht) ⟨t, rfl⟩ hd) (q _ I H (Grow.refl rl.ih) (Dp.int i))
theorem gStrF {z : Str} (hg : GlS sc x) (hm : MT mg x z) (hd : (x == ("__debug__" : Str)) = false) : Ev X A (.Name x pos) (.dat (.str z)) := fun I0 H0 σ I H rl Q q => by
  obtain ⟨t, ht⟩ := hm
  exact wx_of (pe_glob (X := X) (v := .str z) (hX.gl hg) (by rw [hX.eM]; exact ht) ⟨t, rfl⟩ hd) (q _ I H (Grow.refl rl.ih) (Dp.str z))
/-- xs.index(d), d in xs -/
theorem indexF {α : Type} [DecidableEq α] {enc : α → PyData} {dd : Nat} {e e2 : Expr} {y : α} {xs : List α} {j : Nat} (E : Enc enc dd) (hd : dd ≤ 62) (h1 : Ev X A e (.dat (.list (xs.map enc)))) (h2 : Ev X A e2 (.dat (enc y))) (hj : j < xs.length) (hy : xs[j] = y) (hl : ∀ (i : Nat) (h : i < xs.length), i < j → xs[i] ≠ y)
    (hbase : attributeBase e "index" X.env (eval e X.env) = eval e X.env := by rfl) (hs : starEach (e2 :: []) X.env = (false, eval e2 X.env) :: starEach [] X.env := by rfl)
    (hpl : ((backTo p3 (starEach (e2 :: []) X.env)).all (fun x => !x.1) && (backToKw p3 (keywordEach [] X.env)).all (fun x => x.1.isSome) && decide (([e2] : List Expr).length + ([] : List Keyword).length + (if ([] : List Keyword).isEmpty then 0 else 1) < 30)) = true := by rfl) (hline : (p2.endLine == p3.line) = true := by rfl) :
    Ev X A (.Call (.Attribute e "index" p2) [e2] [] p3) (.dat (.int (j : Nat))) := fun I0 H0 σ I H rl Q q =>
  wx_of (pe_bm PySem.F.plainAttrs_list PySem.F.slot_list_index PySem.F.type_list_index (mt_indexD (by have := hX.room.un; omega)) wx_pe (pa_cons wx_pe pa_nil hs) (hbase := hbase) (hfew := hpl) (hline := hline) (hs := hs) (hplain := rfl)) (h1 I0 H0 σ I H rl _ fun u I1 H1 g1 hu => by
    obtain ⟨a, vs, rfl, hk, ha⟩ := dp_lst (show Dp X.K I1 u (.list _) from hu)
    refine ⟨.inl ⟨rfl, _, same_l g1.ih hk⟩, h2 I0 H0 σ I1 H1 (rl.grow g1) _ fun v I2 H2 g2 hv => ?_⟩
    refine ⟨a, v, enc y, xs.map enc, j, enc xs[j], rfl, rfl, (Dp.lst (same_l (g2.hh) (same_l g1.ih hk)) (dpAll_mono g2.ih (dpAll_mono g2.ii ha))).kit (E.lst.shaped (by omega) xs), (dp_mono g2.ih hv).kit (E.shaped (by omega) y), E.lst.shaped (by omega) xs, E.shaped (by omega) y, ?_, ?_, ?_, q _ I2 H2 (g1.trans g2) (.int _)⟩
    · rw [List.getElem?_map, List.getElem?_eq_getElem hj]; rfl
    · rw [E.eqv, hy]; exact decide_eq_true rfl
    · intro m z' hm hz
      have hm2 : m < xs.length := by omega
      rw [List.getElem?_map, List.getElem?_eq_getElem hm2] at hz
      cases hz
      rw [E.eqv]
      exact decide_eq_false (hl m hm2 hm))
end
end LR

set_option Elab.async false
set_option linter.all false
set_option maxRecDepth 100000
set_option maxHeartbeats 4000000
/-! The layer LR, part x: list(range(n)); a result that is a new tuple with a new list behind. -/
namespace LR
open PySem PySem.Spec PyProof.Rows L2
section
variable {P : Program} {w : World} {K : PySem.W.Frag} {mg : Str → Option Value} {base : Heap} {N : List Str} {sc : Scope} {k : Nat}
variable {X : Cx} {e a b : Expr} {es : List Expr} {A : List C} {pos p p2 p3 p4 : Pos} {x : Str}
theorem rg0 (n : Int) : rgV 0 n = ((List.range n.toNat).map fun i : Nat => (i : Int)).map V.int := by
  unfold rgV
  rw [List.map_map, Int.sub_zero]
  refine List.map_congr_left fun i _ => ?_
  show V.int (0 + (i : Int)) = V.int (i : Int)
  rw [Int.zero_add]
/-- a new tuple, its last item the def's new list -/
theorem ev_tupO3 {e1 e2 e3 : Expr} {d1 d2 : PyData} {es : List PyData} {kk} (h1 : Ev X A e1 (.dat d1)) (h2 : Ev X A e2 (.dat d2)) (h3 : Ev X A e3 (.own (.lst es)))
    (n1 : starEach (e1 :: [e2, e3]) X.env = (false, eval e1 X.env) :: starEach [e2, e3] X.env := by rfl) (n2 : starEach (e2 :: [e3]) X.env = (false, eval e2 X.env) :: starEach [e3] X.env := by rfl) (n3 : starEach (e3 :: []) X.env = (false, eval e3 X.env) :: starEach [] X.env := by rfl) :
    Ev X A (.Tuple [e1, e2, e3] kk pos) (.tpo [d1, d2] es) := fun I0 H0 σ I H rl Q q' =>
  wx_of (pe_tup (pa_cons wx_pe (pa_cons wx_pe (pa_cons wx_pe pa_nil n3) n2) n1)) (h1 I0 H0 σ I H rl _ fun v1 I1 H1 g1 hv1 => h2 I0 H0 σ I1 H1 (rl.grow g1) _ fun v2 I2 H2 g2 hv2 => h3 I0 H0 σ I2 H2 ((rl.grow g1).grow g2) _ fun v3 I3 H3 g3 hv3 => by
    obtain ⟨q, o, rfl, m, m', hq, hb⟩ := hv3
    obtain ⟨us, rfl, ha⟩ := obAt_lst hb
    have g := (g1.trans g2).trans g3
    have mh : H q = none := (g1.hh.trans g2.hh).free m
    refine ⟨by rw [sizeLine_eq]; show 3 ≤ 16777216; decide, fun p hp => ?_⟩
    have g4 := Grow.newH (o := .tup [v1, v2, .ref q]) g.ih hp
    have hpq : q ≠ p := ne_of_none hq hp
    exact q' _ _ _ (g.trans g4) ⟨p, q, [v1, v2], us, rfl, g.hh.free hp, g.ih.free hp, upd_same, .cons (dp_mono (g2.trans g3).ii hv1) (.cons (dp_mono g3.ii hv2) .nil), mh, m', by rw [upd_ne hpq]; exact hq, ha⟩)
/-- .. as data -/
theorem ev_soft {ds es : List PyData} (h : Ev X A e (.tpo ds es)) : Ev X A e (.dat (.tuple (ds ++ [.list es]))) := fun I0 H0 σ I H rl Q q' =>
  h I0 H0 σ I H rl Q fun v I1 H1 g hv => by
    obtain ⟨p, q, vs, us, rfl, n1, n2, h1, a1, m1, m2, h2, a2⟩ := hv
    have g2 := g.know (o := .lst us) m1 m2 h2
    have hpq : p ≠ q := fun z => by
      subst z
      rw [h1] at h2
      cases h2
    have n2' : upd I1 q (.lst us) p = none := by rw [upd_ne hpq]; exact n2
    have g3 := g2.know (o := .tup (vs ++ [.ref q])) n1 n2' h1
    have s2 : Same I1 (upd I1 q (.lst us)) := fun b u z => by rw [upd_ne (ne_of_none z m2)]; exact z
    have s3 : Same (upd I1 q (.lst us)) (upd (upd I1 q (.lst us)) p (.tup (vs ++ [.ref q]))) := fun b u z => by rw [upd_ne (ne_of_none z n2')]; exact z
    exact q' _ _ _ g3 (.tup upd_same (dpAll_append (dpAll_mono (s2.trans s3) a1) (dpAll_one (.lst (.inl (.inl (s3 _ _ upd_same))) (dpAll_mono (s2.trans s3) a2)))))
theorem tg_namesO {K : PySem.W.Frag} {jl : Nat} {q0 : Addr} {o : HO} {b : Ob} {I0 H0 I H : Hp} (n0 : H0 q0 = none) (n1 : I q0 = none) (ho : H q0 = some o) (hb : ObAt K I o b) : ∀ {js : List Nat} {σ : L2.St} {A A' : List C} {ds : List PyData} {vs : List V}, uNames js A ds A' → A'[jl]?.isSome = true → Rel K I0 H0 A σ I H → DpAll K I vs ds →
    (∀ i : Nat, isOwn A[i]? → σ[i]? ≠ some (some (.ref q0))) → ∀ Q : L2.St → Hp → Prop, (∀ σ', Rel K I0 H0 (A'.set jl (.own b)) σ' I H → Q σ' H) → gNames (js ++ [jl]) (vs ++ [.ref q0]) σ H Q
  | [], _, _, _, _, _, ⟨e1, e2⟩, hj, r, hv, far, Q, q => by
    subst e1 e2
    cases hv
    exact ⟨_, _, rfl, rfl, q _ (rel_own (Hs := H) r (lt_of_some hj) n0 n1 ho hb far)⟩
  | j :: js, σ, A, A', ds, vs, ⟨d, rd, e1, hj, u⟩, hjl, r, hv, far, Q, q => by
    subst e1
    cases hv with
    | cons h1 h2 =>
      refine ⟨_, _, rfl, tg_namesO n0 n1 ho hb u hjl (rel_set r h1 (lt_of_some hj)) h2 (fun i hi => ?_) Q q⟩
      by_cases ji : j = i
      · subst ji
        rw [List.getElem?_set_self (lt_of_some hj)] at hi
        exact hi.elim
      · rw [List.getElem?_set_ne ji] at hi ⊢
        exact far i hi
def noLC : C → Bool
  | .un => true
  | .dat d => noL d
  | .rf _ => true
  | _ => false
/-- a statement in which an own list is read alone -/
theorem s1_lend (j : Nat) {ds : List PyData} {st : Stmt} {A2 : List C} (hA : A[j]? = some (.own (.lst ds))) (hn : noLs ds = true) (h : ∀ a, S1 X (A.set j (.kn a (.list ds))) st (.nx (A2.set j (.kn a (.list ds))))) (hok : ∀ i c, i ≠ j → A2[i]? = some c → noLC c = true) (hj2 : j < A2.length) :
    S1 X A st (.nx (A2.set j (.own (.lst ds)))) := fun I0 H0 σ I H rl D f => by
  have hj : j < A.length := by
    by_cases hj : j < A.length
    · exact hj
    · rw [List.getElem?_eq_none (by omega)] at hA; cases hA
  obtain ⟨q, o', e1, n0, n, ho, hb⟩ := rl.cell j _ hA
  obtain ⟨vs, rfl, ha⟩ := obAt_lst hb
  have s2 : Same I (upd I q (.lst vs)) := fun b u z => by rw [upd_ne (ne_of_none z n)]; exact z
  refine h q I0 H0 σ (upd I q (.lst vs)) H ⟨rl.gr.know n0 n ho, by rw [List.length_set]; exact rl.len, fun i c hc => ?_, fun i i' r ne o1 o2 hr => ?_⟩ D fun σ' I2 H2 sm r2 => ?_
  · by_cases hi : j = i
    · subst hi
      rw [List.getElem?_set_self hj] at hc
      cases hc
      exact ⟨e1, .lst (.inl (.inl upd_same)) (dpAll_mono s2 ha)⟩
    · rw [List.getElem?_set_ne hi] at hc
      have z := rl.cell i c hc
      cases c with
      | un => trivial
      | rf a => exact z
      | tpo ds es => trivial
      | kn a d => exact ⟨z.1, dp_mono s2 z.2⟩
      | dat d => obtain ⟨v, e2, hd⟩ := z; exact ⟨v, e2, dp_mono s2 hd⟩
      | own b =>
        obtain ⟨q2, o2, e2, m0, m, ho2, hb2⟩ := z
        have hne : q2 ≠ q := fun z => by
          subst z
          exact rl.apart j i q2 hi (by rw [hA]; trivial) (by rw [hc]; trivial) e1 e2
        exact ⟨q2, o2, e2, m0, by rw [upd_ne hne]; exact m, ho2, obAt_mono s2 hb2⟩
  · have key : ∀ i : Nat, isOwn (A.set j (.kn q (.list ds)))[i]? → isOwn A[i]? := fun i o => by
      by_cases hi : j = i
      · subst hi; rw [List.getElem?_set_self hj] at o; exact o.elim
      · rw [List.getElem?_set_ne hi] at o; exact o
    exact rl.apart i i' r ne (key i o1) (key i' o2) hr
  · have hq2 : I2 q = some (.lst vs) := sm q _ upd_same
    have fne : ∀ b, b ≠ q → forget I2 q b = I2 b := fun b hb2 => if_neg hb2
    have fa : forget I2 q q = none := if_pos rfl
    refine f σ' (forget I2 q) H2 (fun b u e => ?_) ⟨⟨fun b u e => ?_, r2.gr.hh, fun b u e => ?_, fun b u e1' e2 => ?_⟩, by rw [List.length_set]; have := r2.len; rw [List.length_set] at this; exact this, fun i c hc => ?_, fun i i' r ne o1 o2 hr => ?_⟩
    · have hb2 : b ≠ q := ne_of_none e n
      rw [fne b hb2]
      exact sm b u (by rw [upd_ne hb2]; exact e)
    · have hb2 : b ≠ q := fun z => by
        subst z
        have := rl.gr.ii _ _ e
        rw [n] at this
        cases this
      rw [fne b hb2]
      exact r2.gr.ii b u e
    · by_cases hb2 : b = q
      · subst hb2; rw [fa] at e; cases e
      · rw [fne b hb2] at e; exact r2.gr.ih b u e
    · by_cases hb2 : b = q
      · subst hb2; exact fa
      · rw [fne b hb2]; exact r2.gr.nw b u e1' e2
    · by_cases hi : j = i
      · subst hi
        rw [List.getElem?_set_self hj2] at hc
        cases hc
        have z := r2.cell j (.kn q (.list ds)) (by rw [List.getElem?_set_self hj2])
        exact ⟨q, .lst vs, z.1, n0, fa, r2.gr.ih _ _ hq2, show DpAll X.K (forget I2 q) vs ds from dpAll_forget hq2 (dpAll_mono (s2.trans sm) ha) hn⟩
      · rw [List.getElem?_set_ne hi] at hc
        have z := r2.cell i c (by rw [List.getElem?_set_ne hi]; exact hc)
        have hl := hok i c (fun e => hi e.symm) hc
        cases c with
        | un => trivial
        | rf a => exact z
        | dat d => obtain ⟨v, e2, hd⟩ := z; exact ⟨v, e2, dp_forget hq2 hd hl⟩
        | tpo ds es => cases hl
        | kn a d => cases hl
        | own b => cases hl
    · have key : ∀ i : Nat, isOwn (A2.set j (.own (.lst ds)))[i]? → i = j := fun i o => by
        by_cases hi : j = i
        · exact hi.symm
        · rw [List.getElem?_set_ne hi] at o
          cases hc : A2[i]? with
          | none => rw [hc] at o; exact o.elim
          | some c =>
            rw [hc] at o
            cases c with
            | own b => have := hok i _ (fun e => hi e.symm) hc; cases this
            | un => exact o.elim
            | rf a => exact o.elim
            | dat d => exact o.elim
            | tpo ds es => exact o.elim
            | kn a d => exact o.elim
      exact absurd ((key i o1).trans (key i' o2).symm) ne
/-- a new dict, looked at no more -/
theorem ev_frzD {es : List (Key × PyData)} (h : Ev X A e (.own (.dct es))) : Ev X A e (.dat (.dict [])) := fun I0 H0 σ I H r Q q =>
  h I0 H0 σ I H r Q fun v I' H' g hv => by
    obtain ⟨p, o, rfl, n, n', h', hb⟩ := hv
    obtain ⟨kvs, rfl, _⟩ := obAt_dct hb
    exact q _ _ _ (g.know (o := .dK kvs) n n' h') (.dic upd_same)
/-- {i: d}, looked at no more -/
theorem ev_disp1 {e1 e2 : Expr} {i : Int} {d : PyData} (h1 : Ev X A e1 (.dat (.int i))) (h2 : Ev X A e2 (.dat d)) : Ev X A (.Dict [some e1] [e2] pos) (.dat (.dict [])) := fun I0 H0 σ I H rl Q q' =>
  wx_of (pe_disp (pps_cons (wx_pe (e := e1)) (wx_pe (e := e2)) pps_nil) rfl rfl (by simp) (show 1 ≤ 15 by decide)) fun p hp => by
    have g0 := Grow.newH (o := .dK []) rl.ih hp
    have n0 := rl.ih.free hp
    refine h1 I0 H0 σ I _ (rl.grow g0) _ fun v1 I1 H1 g1 hv1 => h2 I0 H0 σ I1 H1 ((rl.grow g0).grow g1) _ fun v2 I2 H2 g2 hv2 => ?_
    have g := g1.trans g2
    have hp2 : H2 p = some (.dK []) := g.hh _ _ upd_same
    have np : I2 p = none := g.nw p _ upd_same n0
    refine ⟨hp2, [(.inl i, v2)], by rw [dp_int hv1]; rfl, show 1 ≤ 15 by decide, ?_⟩
    have gm := ((g0.trans g).mut (o := .dK (mergeK [] [(.inl i, v2)])) hp np).know (o := .dK (mergeK [] [(.inl i, v2)])) hp np upd_same
    exact q' _ _ _ gm (.dic upd_same)
variable (hX : XF P w K mg base N sc k X)
include hX
theorem knF (i : Nat) {a : Addr} {d : PyData} (hN : N[i]? = some x) (hA : A[i]? = some (.kn a d)) (hv : Vis sc x) (hd : (x == ("__debug__" : Str)) = false) (hcd : (x == ("__classdict__" : Str)) = false) : Ev X A (.Name x pos) (.dat d) := fun I0 H0 σ I H rl Q q' => by
  obtain ⟨e1, h1⟩ := rl.cell i _ hA
  exact wx_of (pe_var (by rw [hX.eN]; exact hN) (hX.vis hv) hd hcd) ⟨.ref a, e1, q' _ I H (.refl rl.ih) h1⟩
theorem listRgF {n : Int} (hgl : GlS sc "list") (hml : mg "list" = none) (hgr : GlS sc "range") (hmr : mg "range" = none) (h : Ev X A e (.dat (.int n))) (h1 : 0 ≤ n) (h2 : n ≤ 16777216)
    (na : starEach [e] X.env = (false, eval e X.env) :: starEach [] X.env := by rfl) (nb : starEach [.Call (.Name "range" p2) [e] [] p3] X.env = (false, eval (.Call (.Name "range" p2) [e] [] p3) X.env) :: starEach [] X.env := by rfl) :
    Ev X A (.Call (.Name "list" p) [.Call (.Name "range" p2) [e] [] p3] [] pos) (.own (.lst (((List.range n.toNat).map fun i : Nat => (i : Int)).map .int))) := fun I0 H0 σ I H rl Q q' =>
  wx_of (pe_listRg hX.calm (hX.gl hgl) (by rw [hX.eM]; exact hml) (prg_1 (hX.gl hgr) (by rw [hX.eM]; exact hmr) wx_pe na) nb) (h I0 H0 σ I H rl _ fun v I1 H1 g hv => ⟨n, dp_int hv, RgOk.of_le (by omega) h2 (by omega) h1, fun q hq => by
    have g2 := Grow.newH (o := .lst (rgV 0 n)) g.ih hq
    refine q' _ _ _ (g.trans g2) ⟨q, _, rfl, g.hh.free hq, g.ih.free hq, upd_same, ?_⟩
    rw [rg0]
    exact dpAll_ints _⟩)
/-- a, b, .. = a new tuple with a new list behind -/
theorem unpO {js : List Nat} {jl : Nat} {ds es : List PyData} {A' : List C} {tgs : List Expr} {kk} (hg : PGs X tgs (gNames (js ++ [jl]))) (he : Ev X A e (.tpo ds es)) (hu : uNames js A ds A') (hjl : A'[jl]?.isSome = true) (hlen : (assignEach tgs X.env).length = (js ++ [jl]).length := by rfl) (hst : (assignEach tgs X.env).findIdx? (·.1) = none := by rfl)
    (hs : swapsWithSole [.Tuple tgs kk p2] e pos.line X.env = pure false := by rfl) (hw : swappedStores [.Tuple tgs kk p2] e X.env = pure none := by rfl) : S1 X A (.Assign [.Tuple tgs kk p2] e pos) (.nx (A'.set jl (.own (.lst es)))) := fun I0 H0 σ I H rl D f =>
  ws_of (ps_asg wx_pe (pg_tup hX.calm hg hlen hst) hs hw) (he I0 H0 σ I H rl _ fun v I1 H1 g hv => by
    obtain ⟨p, q, vs, us, rfl, n1, n2, h1, a1, m1, m2, h2, a2⟩ := hv
    refine ⟨p, vs ++ [.ref q], rfl, .inl (.inl h1), ?_, tg_namesO (b := .lst es) (rl.gr.hh.free m1) m2 h2 (show ObAt X.K I1 (.lst us) (.lst es) from a2) hu hjl (rl.grow g) a1 (fun i hi => rl.far m1 i hi) _ fun σ' r' => f σ' I1 H1 g.ii r'⟩
    rw [List.length_append, List.length_append, dpAll_len a1, uNames_len hu]
    rfl)
end
end LR

set_option Elab.async false
set_option linter.all false
set_option maxRecDepth 100000
set_option maxHeartbeats 4000000
/-! The layer LR, part y: name = xs.pop(i), abs. -/
namespace LR
open PySem PySem.Spec PyProof.Rows L2
theorem dpAll_erase {K : PySem.W.Frag} {H : Hp} : ∀ {vs : List V} {ds : List PyData} (n : Nat), DpAll K H vs ds → DpAll K H (vs.eraseIdx n) (ds.eraseIdx n)
  | _, _, _, .nil => .nil
  | _, _, 0, .cons h t => t
  | _, _, n + 1, .cons h t => .cons h (dpAll_erase n t)
section
variable {P : Program} {w : World} {K : PySem.W.Frag} {mg : Str → Option Value} {base : Heap} {N : List Str} {sc : Scope} {k : Nat}
variable {X : Cx} {e a b : Expr} {es : List Expr} {A : List C} {pos p p2 p3 p4 : Pos} {x y : Str}
variable (hX : XF P w K mg base N sc k X)
include hX
theorem absF {i : Int} (hg : GlS sc "abs") (hm : mg "abs" = none) (h : Ev X A e (.dat (.int i))) (hs : starEach (e :: []) X.env = (false, eval e X.env) :: starEach [] X.env := by rfl) (hb : bootBuiltins "abs" = some (.builtin "abs") := by decide +kernel) :
    Ev X A (.Call (.Name "abs" p) [e] [] pos) (.dat (.int (if i < 0 then -i else i))) := fun I0 H0 σ I H rl Q q =>
  wx_of (pe_callB call_abs (hX.gl hg) (by rw [hX.eM]; exact hm) hb (pa_cons wx_pe pa_nil hs) (by decide) (by decide) hs rfl) (h I0 H0 σ I H rl _ fun v I1 H1 g hv => ⟨i, by rw [dp_int hv], q _ I1 H1 g (Dp.int _)⟩)
/-- name = [.. if ..] -/
theorem setLcIf {α : Type} {elt iter c : Expr} {scope : Scope} {src : List PyData} {y : Str} {py spos : Pos} (i j : Nat) (xs : List α) (enc : α → PyData) (pr : α → Bool) (f : α → PyData) (hi : EvI X A (.Name x p) iter src) (hsrc : src = xs.map enc) (ok : blkC N sc scope [(x, j)] = true)
    (hN : N[j]? = some x) (hx : (relS scope sc).names.lookup x = some .local) (hz : xs.length < sizeLine) (hj : A[j]?.isSome = true)
    (hb : ∀ Y, XF P w K mg base N (relS scope sc) k Y → ∀ z ∈ xs, Et Y ((A.set j .un).set j (.dat (enc z))) c (pr z) ∧ (pr z = true → Ev Y ((A.set j .un).set j (.dat (enc z))) elt (.dat (f z))))
    (hyN : N[i]? = some y) (hyl : sc.names.lookup y = some .local) (hyj : A[i]?.isSome = true) (hk : sc.kind = .function) (hl : (py.line == pos.line) = true) (ha : (scope.names.any fun (n, k) => n == y && (k == .local || k == .cell)) = false)
    (hs : ∀ x, foldedSetIterable iter X.env x = pure x := by intro _; rfl) : S1 X A (.Assign [.Name y py] (.ListComp elt [⟨.Name x p, iter, [c], 0⟩] scope pos) spos) (.nx (A.set i (.own (.lst ((xs.filter pr).map f))))) :=
  s1_setLc (own := [(x, j)]) (g := gName j) (U := uName j) (A := A) (elt := elt) (ifs := [c]) (pos := pos) (spos := spos) (py := py) xs enc pr f hX.calm hX.ndX hi hsrc (by rw [hX.eN, hX.eS]; exact blkOk_by ok) (fun s H C cl fp => tgB hX.blk j hN hx) tg_name tgw_name (Nat.le_refl _) hz
    (fun z hz => ⟨_, ⟨by show ((A.set j .un)[j]?).isSome = true; rw [List.getElem?_set_self (lt_of_some hj)]; rfl, rfl⟩, fun s H C cl fp => (hb _ hX.blk z hz).1, fun h s H C cl fp => (hb _ hX.blk z hz).2 h⟩) hs (i := i) (y := y) (by rw [hX.eN]; exact hyN) (by rw [hX.eS]; exact hyl) (sw_true (by rw [hX.eS]; exact hk) (by rw [hX.eS]; exact hyl) hl ha) hyj
/-- y = xs.pop(i), xs the def's own list -/
theorem popAtF (hT : XT X) (i j : Nat) {ds : List PyData} {d : PyData} {n : Nat} {pos' : Pos} (hNy : N[i]? = some y) (hy : L2.Loc sc y) (hN : N[j]? = some x) (hA : A[j]? = some (.own (.lst ds))) (hij : i ≠ j) (hi : A[i]?.isSome = true) (hv : Vis sc x) (he : Ev X A e (.dat (.int n))) (hk : ds[n]? = some d) (hz : ds.length ≤ sizeLine)
    (hd : (x == ("__debug__" : Str)) = false) (hcd : (x == ("__classdict__" : Str)) = false)
    (hs : starEach (e :: []) X.env = (false, eval e X.env) :: starEach [] X.env := by rfl) (hpl : ((backTo p3 (starEach (e :: []) X.env)).all (fun x => !x.1) && (backToKw p3 (keywordEach [] X.env)).all (fun x => x.1.isSome) && decide (([e] : List Expr).length + ([] : List Keyword).length + (if ([] : List Keyword).isEmpty then 0 else 1) < 30)) = true := by rfl) (hline : (p2.endLine == p3.line) = true := by rfl)
    (hsw : swapsWith (.Call (.Attribute (.Name x p) "pop" p2) [e] [] p3) (some (.Name y pos')) p4.line X.env = pure false := by rfl) :
    S1 X A (.Assign [.Name y pos'] (.Call (.Attribute (.Name x p) "pop" p2) [e] [] p3) p4) (.nx ((A.set j (.own (.lst (ds.eraseIdx n)))).set i (.dat d))) := fun I0 H0 σ I H rl D f => by
  obtain ⟨q, o, e1, n0, nn, ho, hb⟩ := rl.cell j _ hA
  obtain ⟨vs, rfl, ha⟩ := obAt_lst hb
  have hl : n < ds.length := by
    refine Classical.byContradiction fun z => ?_
    rw [List.getElem?_eq_none (by omega)] at hk
    cases hk
  refine ws_of (ps_set hX.ndX (by rw [hX.eN]; exact hNy) (hX.loc hy) (pe_bm PySem.F.plainAttrs_list PySem.F.slot_list_pop PySem.F.type_list_pop mt_popAt (pe_var (by rw [hX.eN]; exact hN) (hX.vis hv) hd hcd) (pa_cons wx_pe pa_nil hs) (hfew := hpl) (hline := hline) (hs := hs) (hplain := rfl)) hsw (.inl (hT.fn _))) ?_
  refine ⟨.ref q, e1, .inl ⟨rfl, _, .inl (.inl ho)⟩, ?_⟩
  refine he I0 H0 σ I H rl _ fun v I1 H1 g hv1 => ?_
  obtain ⟨u, hu, hdu⟩ := dpAll_get ha hk
  have n1 := g.nw q _ ho nn
  have lv := dpAll_len ha
  rw [sizeLine_eq] at hz
  refine ⟨q, vs, n, n, u, rfl, by rw [dp_int hv1], g.hh _ _ ho, by omega, by omega, ?_, hu, ?_⟩
  · unfold seqIndex?
    simp
    omega
  · refine f _ I1 _ g.ii (rel_set (rel_mut (rl.grow g) hA e1 n0 n1 (show ObAt X.K I1 (.lst (vs.eraseIdx n)) (.lst (ds.eraseIdx n)) from dpAll_erase n (dpAll_mono g.ii ha))) (dp_mono g.ii hdu) ?_)
    rw [List.length_set]
    exact lt_of_some hi
end
end LR

set_option Elab.async false
set_option linter.all false
set_option maxRecDepth 100000
set_option maxHeartbeats 4000000
/-! The layer LR, part z: len(set(xs)) of unlike tuples of whole numbers; for x, y, z in .. -/
namespace LR
open PySem PySem.Spec PyProof.Rows L2
theorem dpAll_ks {K : PySem.W.Frag} {I : Hp} : ∀ {ts : List (List Int)} {vs : List V}, DpAll K I vs (ts.map tI) → ∃ ks : List (Addr × List Int), vs = ks.map (fun p => V.ref p.1) ∧ ks.map (·.2) = ts ∧ ∀ p ∈ ks, SqT K I p.1 (p.2.map V.int)
  | [], _, .nil => ⟨[], rfl, rfl, fun _ h => nomatch h⟩
  | t :: ts, _, .cons h r => by
    obtain ⟨ks, e1, e2, h3⟩ := dpAll_ks (ts := ts) r
    obtain ⟨a, xs, rfl, hk, ha⟩ := dp_tup (show Dp K I _ (.tuple (t.map .int)) from h)
    rw [ints_of ha] at hk
    refine ⟨(a, t) :: ks, by rw [e1]; rfl, by rw [← e2]; rfl, fun p hp => ?_⟩
    rcases List.mem_cons.mp hp with rfl | hp
    · exact hk
    · exact h3 p hp
section
variable {P : Program} {w : World} {K : PySem.W.Frag} {mg : Str → Option Value} {base : Heap} {N : List Str} {sc : Scope} {k : Nat}
variable {X : Cx} {e a b : Expr} {es : List Expr} {A : List C} {pos p p2 p3 p4 q0 : Pos} {x y : Str}
variable (hX : XF P w K mg base N sc k X)
include hX
theorem lenSetTF {ts us : List (List Int)} (hgl : GlS sc "len") (ml : mg "len" = none) (hgs : GlS sc "set") (ms : mg "set" = none) (h : EvS X A e true (ts.map tI)) (few : ts.length < 64) (nd : us.Nodup) (same : ∀ z, z ∈ us ↔ z ∈ ts) (na : starEach [e] X.env = (false, eval e X.env) :: starEach [] X.env := by rfl) :
    Ev X A (.Call (.Name "len" p) [.Call (.Name "set" p2) [e] [] q0] [] pos) (.dat (.int us.length)) := fun I0 H0 σ I H rl Q q' => by
  have hw : Wx X e σ H (fun x H1 => ∃ (l : Addr) (ks : List (Addr × List Int)), x = V.ref l ∧ SqL X.K H1 l (ks.map fun p => V.ref p.1) ∧ (∀ p ∈ ks, SqT X.K H1 p.1 (p.2.map V.int)) ∧ ks.map (·.2) = ts ∧ Q (.int us.length) H1) := h I0 H0 σ I H rl _ fun pa vs I1 H1 g hk ha => by
    obtain ⟨ks, rfl, e2, h3⟩ := dpAll_ks ha
    exact ⟨pa, ks, rfl, hk, fun p hp => same_t g.ih (h3 p hp), e2, q' _ I1 H1 g (.int _)⟩
  intro pins s Iv
  refine Call_ (ld_blt Iv (hX.gl hgl) (by rw [hX.eM]; exact ml) PySem.boot_len ?_)
  refine PyProof.Rows.callWith_builtin1 (PyProof.Rows.args_cons ?_ rfl) rfl rfl
  refine Call_ (ld_blt Iv (hX.gl hgs) (by rw [hX.eM]; exact ms) PyProof.Rows.boot_set ?_)
  refine PyProof.Rows.callWith_type1 (PyProof.Rows.args_cons (thn (hw pins s Iv) fun v s1 ⟨x, H1, I1, r1, q1⟩ => PyProof.Rows.args_nil ?_) na) na rfl
  obtain ⟨l, ks, rfl, hq, hks, ekt, qq⟩ := q1
  cases r1
  obtain ⟨its, rv, pl, hz⟩ := I1.list hq
  have lk : ks.length = ts.length := by rw [← ekt, List.length_map]
  refine call_set_tups (P := X.prog) (w := X.w) ks (I1.ok.hd hX.calm) pl.isList (by simpa using refs_of_vals rv) (fun p hp => I1.isT (hks p hp)) (by omega) (by have := hX.room.un; omega) fun h' tk L es ep t R g hk => ?_
  have hL : L.length = us.length := by
    have e1 : (L.map (·.2)).Perm us := (List.perm_ext_iff_of_nodup R.nd nd).mpr fun z => by
      rw [same z]
      constructor
      · intro hz
        obtain ⟨p, hp, rfl⟩ := List.mem_map.mp hz
        have := g.sub p hp
        rw [← ekt]
        exact List.mem_map.mpr ⟨p, List.mem_of_mem_take this, rfl⟩
      · intro hz
        rw [← ekt] at hz
        obtain ⟨p, hp, rfl⟩ := List.mem_map.mp hz
        exact g.all p (by rw [List.take_length]; exact hp)
    have := e1.length_eq
    rwa [List.length_map] at this
  refine PyProof.Rows.args_nil ?_
  obtain ⟨o, ho, hex, hd⟩ := R.ob
  have I2 : Inv X pins σ H1 { s1 with heap := h', toks := tk } := I1.kept fun b o e => hk b o e
  have hsz := SetTR.size (s := { s1 with heap := h', toks := tk }) R
  have hfw := R.few
  have hft := SetTR.fits (s := { s1 with heap := h', toks := tk }) R
  refine call_len_set ho hex hd hft (by omega) ⟨.int us.length, H1, I2.tok _, ⟨_, by rw [hsz, hL]⟩, qq⟩
/-- for x, y, z in .. -/
theorem for3 {α : Type} {body : List Stmt} {x y z : Str} {px py pz tpos : Pos} {kk} {src : List PyData} (i j l : Nat) (xs : List α) (e1 e2 e3 : α → PyData) (inv : Nat → List C) (hi : EvI X A (.Tuple [.Name x px, .Name y py, .Name z pz] kk tpos) e src) (hsrc : src = xs.map fun z => .tuple [e1 z, e2 z, e3 z])
    (g1 : PG X (.Name x px) (gName i)) (g2 : PG X (.Name y py) (gName j)) (g3 : PG X (.Name z pz) (gName l)) (h0 : LeA A (inv 0)) (hi2 : ∀ n, (inv n)[i]?.isSome = true) (hj2 : ∀ n, (inv n)[j]?.isSome = true) (hl2 : ∀ n, (inv n)[l]?.isSome = true)
    (hb : ∀ (n : Nat) (hn : n < xs.length), Sm X ((((inv n).set i (.dat (e1 xs[n]))).set j (.dat (e2 xs[n]))).set l (.dat (e3 xs[n]))) body (.nx (inv (n + 1)))) (hs : ∀ x, foldedSetIterable e X.env x = pure x := by intro _; rfl) : S1 X A (.For (.Tuple [.Name x px, .Name y py, .Name z pz] kk tpos) e body [] pos) (.nx (inv xs.length)) := by
  subst hsrc
  refine s1_for (g := gTup X.K [i, j, l].length (gNames [i, j, l])) (U := uTup [i, j, l]) hX.pass hX.calm hi (pg_tup (es := [.Name x px, .Name y py, .Name z pz]) hX.calm (pgs_cons (e := .Name x px) (es := [.Name y py, .Name z pz]) g1 (pgs_cons (e := .Name y py) (es := [.Name z pz]) g2 (pgs_cons (e := .Name z pz) (es := []) g3 pgs_nil)))) tg_tup inv xs.length (by simp) h0 (fun n d hn hd => ?_) (.inl ⟨by simp, rfl⟩) hs
  rw [List.getElem?_map, List.getElem?_eq_getElem hn] at hd
  cases hd
  refine ⟨_, ⟨_, rfl, _, _, rfl, hi2 n, _, _, rfl, ?_, _, _, rfl, ?_, rfl, rfl⟩, hb n hn⟩
  · rw [List.getElem?_set]
    split
    · split
      · rfl
      · next h1 h2 =>
        exfalso
        have := lt_of_some (hi2 n)
        omega
    · exact hj2 n
  · have key : ∀ (B : List C) (u v : Nat) (c : C), B[v]?.isSome = true → (B.set u c)[v]?.isSome = true := fun B u v c h => by
      rw [List.getElem?_set]
      split
      · split
        · rfl
        · next h1 h2 =>
          exfalso
          have := lt_of_some h
          omega
      · exact h
    exact key _ _ _ _ (key _ _ _ _ (hl2 n))
end
end LR

namespace W
open PySem PySem.Spec PyProof.Rows L2 LR
def topS (i : Nat) : Stmt := PySem.Challenge.pw_longrounds_k96_whole_any_rows.main.body.getD i (.Pass ⟨0, 0, 0, 0⟩)
abbrev s_on : Stmt := topS 4
theorem sc_on : FnScope ["P", "n"] ["P", "n"] (defScope s_on) := ⟨rfl, rfl, rfl, by decide +kernel, rfl, by decide +kernel, by decide +kernel⟩
abbrev s_back : Stmt := topS 5
theorem sc_back : FnScope ["P", "n", "left", "right", "one", "other", "many"] ["P", "n"] (defScope s_back) := ⟨rfl, rfl, rfl, by decide +kernel, rfl, by decide +kernel, by decide +kernel⟩
abbrev s_lead_of : Stmt := topS 7
theorem sc_lead_of : FnScope ["row", "at"] ["row"] (defScope s_lead_of) := ⟨rfl, rfl, rfl, by decide +kernel, rfl, by decide +kernel, by decide +kernel⟩
abbrev s_less : Stmt := topS 8
theorem sc_less : FnScope ["P", "row", "other", "c", "x", "y"] ["P", "row", "other", "c"] (defScope s_less) := ⟨rfl, rfl, rfl, by decide +kernel, rfl, by decide +kernel, by decide +kernel⟩
abbrev s_rest_by : Stmt := topS 9
theorem sc_rest_by : FnScope ["P", "found", "row", "one"] ["P", "found", "row"] (defScope s_rest_by) := ⟨rfl, rfl, rfl, by decide +kernel, rfl, by decide +kernel, by decide +kernel⟩
abbrev s_with_row : Stmt := topS 10
theorem sc_with_row : FnScope ["P", "found", "row", "at", "c", "x", "one"] ["P", "found", "row"] (defScope s_with_row) := ⟨rfl, rfl, rfl, by decide +kernel, rfl, by decide +kernel, by decide +kernel⟩
abbrev s_steps_form : Stmt := topS 11
theorem sc_steps_form : FnScope ["P", "rows", "found", "row"] ["P", "rows"] (defScope s_steps_form) := ⟨rfl, rfl, rfl, by decide +kernel, rfl, by decide +kernel, by decide +kernel⟩
abbrev s_with_weights : Stmt := topS 12
theorem sc_with_weights : FnScope ["P", "rows", "size", "longer", "at", "k"] ["P", "rows"] (defScope s_with_weights) := ⟨rfl, rfl, rfl, by decide +kernel, rfl, by decide +kernel, by decide +kernel⟩
abbrev s_idle_sums : Stmt := topS 13
theorem sc_idle_sums : FnScope ["P", "rows", "wide", "row"] ["P", "rows"] (defScope s_idle_sums) := ⟨rfl, rfl, rfl, by decide +kernel, rfl, by decide +kernel, by decide +kernel⟩
abbrev s_shut_off : Stmt := topS 14
theorem sc_shut_off : FnScope ["P", "rows", "goal", "found", "left", "at", "c", "row", "one"] ["P", "rows", "goal"] (defScope s_shut_off) := ⟨rfl, rfl, rfl, by decide +kernel, rfl, by decide +kernel, by decide +kernel⟩
abbrev s_solved : Stmt := topS 15
theorem sc_solved : FnScope ["P", "rows", "goal", "wide", "left", "x"] ["P", "rows", "goal"] (defScope s_solved) := ⟨rfl, rfl, rfl, by decide +kernel, rfl, by decide +kernel, by decide +kernel⟩
abbrev s__law_cell : Stmt := topS 17
theorem sc__law_cell : FnScope ["script", "k"] ["script", "k"] (defScope s__law_cell) := ⟨rfl, rfl, rfl, by decide +kernel, rfl, by decide +kernel, by decide +kernel⟩
abbrev s__law_prime : Stmt := topS 18
theorem sc__law_prime : FnScope ["cell", "n", "by"] ["cell"] (defScope s__law_prime) := ⟨rfl, rfl, rfl, by decide +kernel, rfl, by decide +kernel, by decide +kernel⟩
abbrev s__law_digits : Stmt := topS 19
theorem sc__law_digits : FnScope ["cell", "P", "size", "out", "k"] ["cell", "P", "size"] (defScope s__law_digits) := ⟨rfl, rfl, rfl, by decide +kernel, rfl, by decide +kernel, by decide +kernel⟩
abbrev s__law_number : Stmt := topS 20
theorem sc__law_number : FnScope ["script", "number", "cell"] ["script"] (defScope s__law_number) := ⟨rfl, rfl, rfl, by decide +kernel, rfl, by decide +kernel, by decide +kernel⟩
abbrev s__law_back : Stmt := topS 21
theorem sc__law_back : FnScope ["P", "x", "found", "n"] ["P", "x"] (defScope s__law_back) := ⟨rfl, rfl, rfl, by decide +kernel, rfl, by decide +kernel, by decide +kernel⟩
abbrev s__law_cleared : Stmt := topS 22
theorem sc__law_cleared : FnScope ["P", "row", "first", "at", "x", "y"] ["P", "row", "first", "at"] (defScope s__law_cleared) := ⟨rfl, rfl, rfl, by decide +kernel, rfl, by decide +kernel, by decide +kernel⟩
abbrev s__law_reduced : Stmt := topS 23
theorem sc__law_reduced : FnScope ["P", "rows", "left", "ready", "at", "some", "first", "c", "k", "x", "row"] ["P", "rows"] (defScope s__law_reduced) := ⟨rfl, rfl, rfl, by decide +kernel, rfl, by decide +kernel, by decide +kernel⟩
abbrev s__law_idle : Stmt := topS 24
theorem sc__law_idle : FnScope ["P", "rows", "wide", "size", "longer", "k", "row"] ["P", "rows"] (defScope s__law_idle) := ⟨rfl, rfl, rfl, by decide +kernel, rfl, by decide +kernel, by decide +kernel⟩
abbrev s__law_tells : Stmt := topS 25
theorem sc__law_tells : FnScope ["P", "rows", "goal", "told", "free", "marks", "total", "row", "c", "x", "y"] ["P", "rows", "goal", "told", "free"] (defScope s__law_tells) := ⟨rfl, rfl, rfl, by decide +kernel, rfl, by decide +kernel, by decide +kernel⟩
abbrev s_law : Stmt := topS 26
theorem sc_law : FnScope ["script", "P", "wide", "size", "digits", "rows", "goal", "found", "idle_rows", "free", "k"] ["script"] (defScope s_law) := ⟨rfl, rfl, rfl, by decide +kernel, rfl, by decide +kernel, by decide +kernel⟩
end W
open PySem PySem.Spec PyProof.Rows L2 LR
local macro_rules | `(tactic| wtm_at "dk") => `(tactic| decide +kernel)
local macro_rules | `(tactic| wtm_at "ra") => `(tactic| with_reducible assumption)
local macro_rules | `(tactic| wtm_at "sd") => `(tactic| first | (with_reducible assumption) | omega | (simp only [List.length_map, List.length_range, List.length_append, List.length_cons, List.length_nil, List.length_replicate, List.length_take, List.length_drop] at *; omega))
local macro_rules | `(tactic| wtm_at "sz") => `(tactic| first | decide +kernel | (simp only [sizeLine_eq, List.length_map, List.length_range, List.length_append, List.length_cons, List.length_nil, List.length_replicate, List.length_take, List.length_drop] at *; omega))
local macro_rules | `(tactic| wtm_at "seqd") => `(tactic| first | exact SeqD.tup | exact SeqD.lst)
local macro_rules | `(tactic| wtm_at "seq") => `(tactic| first
  | (wtm_at "own")
  | (refine' evs_new ?a_m1; (case' a_m1 => wtm_at "evl"))
  | (refine' evs_dat ?a_m2 ?r_m2; (case' a_m2 => wtm_at "ev"); (case' r_m2 => wtm_at "seqd"))
  | (refine' evs_new ?a_m3; (case' a_m3 => wtm_at "ev")))
local macro_rules | `(tactic| wtm_at "evl") => `(tactic| first
  | (refine' ev_lst ?a_m4 ?sd_m4; (case' a_m4 => wtm_at "args"); (case' sd_m4 => wtm_at "sz"))
  | ((with_reducible refine' ev_takeL ?sa_n70 ?sb_n70 ?sc_n70); (case' sa_n70 => wtm_at "seq"); (case' sb_n70 => wtm_at "ev"); (case' sc_n70 => try (wtm_at "sd")))
  | ((with_reducible refine' ev_dropL ?sa_n71 ?sb_n71 ?sc_n71); (case' sa_n71 => wtm_at "seq"); (case' sb_n71 => wtm_at "ev"); (case' sc_n71 => try (wtm_at "sd")))
  | ((with_reducible refine' ev_midL ?sa_n72 ?sb_n72 ?sc_n72 ?sd_n72 ?se_n72); (case' sa_n72 => wtm_at "seq"); (case' sb_n72 => wtm_at "ev"); (case' sc_n72 => wtm_at "ev"); (case' sd_n72 => try (wtm_at "sd")); (case' se_n72 => try (wtm_at "sd")))
  | (refine' ev_slL ?a_m5 ?l_m5 ?u_m5; (case' a_m5 => wtm_at "seq"); (case' l_m5 => wtm_at "part"); (case' u_m5 => wtm_at "part"))
  | ((with_reducible show Ev _ _ (.Call (.Name "list" _) _ _ _) _); wtm_at "call"))
local macro_rules | `(tactic| wtm_at "bin") => `(tactic| first
  | exact BinD.add | exact BinD.sub
  | (refine' BinD.mul ?sd_m6; try (case sd_m6 => (first | (with_reducible assumption) | exact Or.inl (by omega) | exact Or.inr (by omega))))
  | (refine' BinD.mod ?sd_m7; try (case sd_m7 => wtm_at "sd"))
  | (refine' BinD.div ?sd_m8 ?sd2_m8; try (case sd_m8 => wtm_at "sd"); try (case sd2_m8 => wtm_at "sd"))
  | (refine' BinD.pow ?sd_m9; try (case sd_m9 => (first | decide | exact ⟨by decide, by decide, by decide⟩ | (wtm_at "sd"))))
  | (with_reducible refine' BinD.catI ?sda; try (case sda => wtm_at "sz"))
  | (with_reducible refine' BinD.catI1 ?sdb; try (case sdb => wtm_at "sz"))
  | (with_reducible refine' BinD.cat1I ?sdc; try (case sdc => wtm_at "sz"))
  | (with_reducible refine' BinD.catT ?sdd; try (case sdd => wtm_at "sz"))
  | (with_reducible refine' BinD.catT1 ?sde; try (case sde => wtm_at "sz"))
  | (refine' BinD.cat ?sd_m10; try (case sd_m10 => wtm_at "sz"))
  | (refine' BinD.str ?sd_m11; try (case sd_m11 => wtm_at "sz")))
local macro_rules | `(tactic| wtm_at "cmp") => `(tactic| first
  | exact CmpD.lt | exact CmpD.le | exact CmpD.gt | exact CmpD.ge | exact CmpD.eqI | exact CmpD.neI | exact CmpD.eqS | exact CmpD.neS)
local macro_rules | `(tactic| wtm_at "cmpr") => `(tactic| first
  | (refine' cmpR_D ?cr1; (case' cr1 => wtm_at "cmp"))
  | (with_reducible exact cmpR_isN) | (with_reducible exact cmpR_notN)
  | exact cmpEqI (by assumption)
  | exact cmpNeI (by assumption)
  | exact cmpEqT (by assumption)
  | exact cmpNeT (by assumption))
local macro_rules | `(tactic| wtm_at "ix") => `(tactic| first
  | (with_reducible assumption)
  | (with_reducible refine' ixLastI ?sdl; try (case sdl => wtm_at "sd"))
  | (with_reducible refine' IxD.nIn ?sd_m12; try (case sd_m12 => wtm_at "sd"))
  | (with_reducible refine' IxD.nTn ?sd_m13; try (case sd_m13 => wtm_at "sd"))
  | (with_reducible refine' IxD.nI ?sd_m14 ?sd2_m14; try (case sd_m14 => wtm_at "sd"); try (case sd2_m14 => wtm_at "sd"))
  | (with_reducible refine' IxD.nT ?sd_m15 ?sd2_m15; try (case sd_m15 => wtm_at "sd"); try (case sd2_m15 => wtm_at "sd"))
  | (with_reducible refine' IxD.nS ?sd_m16 ?sd2_m16; try (case sd_m16 => wtm_at "sd"); try (case sd2_m16 => wtm_at "sd"))
  | (with_reducible refine' IxD.nL2 ?sd_m17 ?sd2_m17; try (case sd_m17 => wtm_at "sd"); try (case sd2_m17 => wtm_at "sd"))
  | (with_reducible refine' IxD.nL3 ?sd_m18 ?sd2_m18; try (case sd_m18 => wtm_at "sd"); try (case sd2_m18 => wtm_at "sd"))
  | (with_reducible refine' IxD.nL4 ?sd_m19 ?sd2_m19; try (case sd_m19 => wtm_at "sd"); try (case sd2_m19 => wtm_at "sd"))
  | (with_reducible refine' IxD.nTTn ?sdt; try (case sdt => wtm_at "sd"))
  | (with_reducible refine' IxD.nTT ?sdu ?sdv; try (case sdu => wtm_at "sd"); try (case sdv => wtm_at "sd"))
  | exact IxD.lit rfl)
local macro_rules | `(tactic| wtm_at "args") => `(tactic| first
  | exact ea_nil
  | (refine' ea_cons ?a_m20 ?b_m20; (case' a_m20 => wtm_at "ev"); (case' b_m20 => wtm_at "args")))
local macro_rules | `(tactic| wtm_at "R") => `(tactic| (constructor; all_goals try (wtm_at "sd")))
local macro_rules | `(tactic| wtm_at "part") => `(tactic| first | exact evo_none | (refine' evo_some ?pt1; (case' pt1 => wtm_at "ev")))
local macro_rules | `(tactic| wtm_at "call") => `(tactic| first
  | ((with_reducible show Ev _ _ (.Call (.Name "len" _) _ _ _) _); refine' lenF ?q1_m21 ?q2_m21 ?q3_m21 ?a_m21; (case' q1_m21 => assumption); (case' q2_m21 => decide +kernel); (case' q3_m21 => with_reducible assumption); (case' a_m21 => wtm_at "seq"))
  | ((with_reducible show Ev _ _ (.Call (.Name "tuple" _) _ _ _) _); refine' tupleF ?q1_m22 ?q2_m22 ?q3_m22 ?a_m22; (case' q1_m22 => assumption); (case' q2_m22 => decide +kernel); (case' q3_m22 => with_reducible assumption); (case' a_m22 => wtm_at "seq"))
  | ((with_reducible show Ev _ _ (.Call (.Name "list" _) _ _ _) _); refine' listF ?q1_m23 ?q2_m23 ?q3_m23 ?a_m23; (case' q1_m23 => assumption); (case' q2_m23 => decide +kernel); (case' q3_m23 => with_reducible assumption); (case' a_m23 => wtm_at "seq"))
  | ((with_reducible show Ev _ _ (.Call (.Name "int" _) _ _ _) _); refine' intBF ?q1_m24 ?q2_m24 ?q3_m24 ?a_m24; (case' q1_m24 => assumption); (case' q2_m24 => decide +kernel); (case' q3_m24 => with_reducible assumption); (case' a_m24 => wtm_at "ev"))
  | ((with_reducible show Ev _ _ (.Call (.Name "max" _) [_, _] _ _) _); refine' max2F ?q1_m25 ?q2_m25 ?q3_m25 ?a_m25; (case' q1_m25 => assumption); (case' q2_m25 => decide +kernel); (case' q3_m25 => with_reducible assumption); (case' a_m25 => wtm_at "args"))
  | ((with_reducible show Ev _ _ (.Call (.Name "min" _) [_, _] _ _) _); refine' min2F ?q1_m26 ?q2_m26 ?q3_m26 ?a_m26; (case' q1_m26 => assumption); (case' q2_m26 => decide +kernel); (case' q3_m26 => with_reducible assumption); (case' a_m26 => wtm_at "args"))
  | ((with_reducible show Ev _ _ (.Call (.Name "isinstance" _) _ _ _) _); refine' isiF ?q1_m27 ?q2_m27 ?q3_m27 ?a_m27 ?q4_m27 ?q5_m27 ?q6_m27 ?q7_m27 ?q8_m27 ?q9_m27; (case' q1_m27 => assumption); (case' a_m27 => wtm_at "ev"); (case' q2_m27 => decide +kernel); (case' q3_m27 => with_reducible assumption); (case' q4_m27 => decide +kernel); (case' q5_m27 => with_reducible assumption); (case' q6_m27 => decide +kernel); (case' q7_m27 => (dsimp only [tyD]; first | (show _ = some true; decide +kernel) | (show _ = some false; decide +kernel))); (case' q8_m27 => decide); (case' q9_m27 => decide))
  | (refine' callF ?q1_m28 ?q2_m28 ?q3_m28 ?q4_m28 ?a_m28 ?r_m28 ?q5_m28; (case' q1_m28 => assumption); (case' q2_m28 => with_reducible assumption); (case' q3_m28 => decide); (case' q4_m28 => decide +kernel); (case' q5_m28 => decide +kernel); (case' a_m28 => wtm_at "args"); (case' r_m28 => wtm_at "R")))
local macro_rules | `(tactic| wtm_at "bools") => `(tactic| first
  | (refine' ev_one ?a_m29; (case' a_m29 => wtm_at "ev"))
  | (refine' ev_and ?a_m30 (fun _ => ?b_m30); (case' a_m30 => wtm_at "ev"); (case' b_m30 => wtm_at "bools"))
  | (refine' ev_or ?a_m31 (fun _ => ?b_m31); (case' a_m31 => wtm_at "ev"); (case' b_m31 => wtm_at "bools")))
local macro_rules | `(tactic| wtm_at "evL") => `(tactic| first
  | (wtm_at "ownl")
  | (refine' evl_new ?eL1; (case' eL1 => first | (wtm_at "evl") | (wtm_at "ev"))))
local macro_rules | `(tactic| wtm_at "ev") => `(tactic| first
  | (wtm_at "nm")
  | exact ev_int
  | ((with_reducible show Ev _ _ (.BinOp (.Tuple _ _ _) .Mult _ _) _); refine' ev_repI ?rp1 ?rp2 ?rp3 ?rp4; (case' rp1 => wtm_at "ev"); (case' rp2 => wtm_at "ev"); (case' rp3 => try (wtm_at "sd")); (case' rp4 => try (wtm_at "sd")))
  | ((with_reducible show Ev _ _ (.BinOp (.List _ _) .Mult _ _) _); refine' ev_repLI ?rq1 ?rq2 ?rq3 ?rq4; (case' rq1 => wtm_at "evL"); (case' rq2 => wtm_at "ev"); (case' rq3 => try (wtm_at "sd")); (case' rq4 => try (wtm_at "sd")))
  | (refine' ev_bin ?a_m32 ?b_m32 ?r_m32; (case' a_m32 => wtm_at "ev"); (case' b_m32 => wtm_at "ev"); (case' r_m32 => wtm_at "bin"))
  | (refine' ev_cmpR ?cm1 ?cm2 ?cm3; (case' cm1 => wtm_at "ev"); (case' cm2 => wtm_at "ev"); (case' cm3 => wtm_at "cmpr"))
  | (wtm_at "call")
  | ((with_reducible show Ev _ _ (.BinOp _ .Add _ _) _); refine' ev_catL ?cl1 ?cl2 ?cl3; (case' cl1 => wtm_at "evL"); (case' cl2 => wtm_at "evL"); (case' cl3 => try (wtm_at "sz")))
  | ((with_reducible refine' ev_takeL ?sa_m70 ?sb_m70 ?sc_m70); (case' sa_m70 => wtm_at "seq"); (case' sb_m70 => wtm_at "ev"); (case' sc_m70 => try (wtm_at "sd")))
  | ((with_reducible refine' ev_dropL ?sa_m71 ?sb_m71 ?sc_m71); (case' sa_m71 => wtm_at "seq"); (case' sb_m71 => wtm_at "ev"); (case' sc_m71 => try (wtm_at "sd")))
  | ((with_reducible refine' ev_midL ?sa_m72 ?sb_m72 ?sc_m72 ?sd_m72 ?se_m72); (case' sa_m72 => wtm_at "seq"); (case' sb_m72 => wtm_at "ev"); (case' sc_m72 => wtm_at "ev"); (case' sd_m72 => try (wtm_at "sd")); (case' se_m72 => try (wtm_at "sd")))
  | ((with_reducible refine' ev_takeT ?sa_m73 ?sb_m73 ?sc_m73); (case' sa_m73 => wtm_at "ev"); (case' sb_m73 => wtm_at "ev"); (case' sc_m73 => try (wtm_at "sd")))
  | ((with_reducible refine' ev_dropT ?sa_m74 ?sb_m74 ?sc_m74); (case' sa_m74 => wtm_at "ev"); (case' sb_m74 => wtm_at "ev"); (case' sc_m74 => try (wtm_at "sd")))
  | ((with_reducible refine' ev_midT ?sa_m75 ?sb_m75 ?sc_m75 ?sd_m75 ?se_m75); (case' sa_m75 => wtm_at "ev"); (case' sb_m75 => wtm_at "ev"); (case' sc_m75 => wtm_at "ev"); (case' sd_m75 => try (wtm_at "sd")); (case' se_m75 => try (wtm_at "sd")))
  | (refine' ev_slL ?a_m34 ?l_m34 ?u_m34; (case' a_m34 => wtm_at "seq"); (case' l_m34 => wtm_at "part"); (case' u_m34 => wtm_at "part"))
  | (refine' ev_slT ?a_m35 ?l_m35 ?u_m35; (case' a_m35 => wtm_at "ev"); (case' l_m35 => wtm_at "part"); (case' u_m35 => wtm_at "part"))
  | (refine' ev_atD ?a_m36 ?b_m36 ?r_m36 ?px_m36; (case' px_m36 => exact fun _ _ => rfl); (case' a_m36 => wtm_at "seq"); (case' b_m36 => wtm_at "ev"); (case' r_m36 => wtm_at "ix"))
  | (refine' ev_tup ?a_m37 ?sd_m37; (case' a_m37 => wtm_at "args"); (case' sd_m37 => wtm_at "sz"))
  | (refine' ev_lst ?a_m38 ?sd_m38; (case' a_m38 => wtm_at "args"); (case' sd_m38 => wtm_at "sz"))
  | exact ev_str
  | exact ev_bl
  | exact ev_non
  | (refine' ev_neg ?a_m39; (case' a_m39 => wtm_at "ev"))
  | (refine' ev_not ?a_m40; (case' a_m40 => wtm_at "ev"))
  | (refine' ev_chainR ?a_m41 ?b_m41 ?c_m41 (cmpR_D ?d_m41) (cmpR_D ?f_m41); (case' a_m41 => wtm_at "ev"); (case' b_m41 => wtm_at "ev"); (case' c_m41 => wtm_at "ev"); (case' d_m41 => wtm_at "cmp"); (case' f_m41 => wtm_at "cmp"))
  | (wtm_at "bools"))
local macro_rules | `(tactic| wtm_at "tw") => `(tactic| first
  | (refine' ew_and1 ?a_m42; (case' a_m42 => wtm_at "test"))
  | (refine' ew_or1 ?a_m43; (case' a_m43 => wtm_at "test"))
  | (refine' ew_and ?a_m44 (fun _ => ?b_m44); (case' a_m44 => wtm_at "test"); (case' b_m44 => wtm_at "tw"))
  | (refine' ew_or ?a_m45 (fun _ => ?b_m45); (case' a_m45 => wtm_at "test"); (case' b_m45 => wtm_at "tw")))
local macro_rules | `(tactic| wtm_at "test") => `(tactic| first
  | (refine' ew_et ?a_m46; (case' a_m46 => wtm_at "tw"))
  | (refine' et_not ?a_m47; (case' a_m47 => wtm_at "test"))
  | (refine' et_cmpR ?ct1 ?ct2 ?ct3; (case' ct1 => wtm_at "ev"); (case' ct2 => wtm_at "ev"); (case' ct3 => wtm_at "cmpr"))
  | (refine' et_chain ?a_m49 ?b_m49 ?c_m49 (cmpR_D ?d_m49) (cmpR_D ?f_m49); (case' a_m49 => wtm_at "ev"); (case' b_m49 => wtm_at "ev"); (case' c_m49 => wtm_at "ev"); (case' d_m49 => wtm_at "cmp"); (case' f_m49 => wtm_at "cmp"))
  | (refine' et_ev ?a_m50; (case' a_m50 => wtm_at "ev"))
  | (refine' et_seq ?a_m51; (case' a_m51 => wtm_at "seq")))
local macro_rules | `(tactic| wtm_at "lec") => `(tactic| first
  | exact LeC.un
  | (with_reducible exact LeC.refl)
  | (refine' LeC.int ?sd_m52; try (case sd_m52 => (first | (wtm_at "sd") | rfl)))
  | (refine' LeC.str ?sd_m53; try (case sd_m53 => (first | (wtm_at "sd") | rfl)))
  | (refine' LeC.tupI ?sd_m54; try (case sd_m54 => (first | (wtm_at "sd") | rfl)))
  | (refine' LeC.tup ?sd_m55; try (case sd_m55 => (first | (wtm_at "sd") | rfl)))
  | (refine' LeC.dat ?sd_m56; try (case sd_m56 => (first | (wtm_at "sd") | rfl)))
  | (refine' LeC.own ?sd_m57; try (case sd_m57 => (first | (wtm_at "sd") | rfl))))
local macro_rules | `(tactic| wtm_at "le") => `(tactic| first
  | exact LeA.nil
  | (refine' LeA.cons ?a_m58 ?b_m58; (case' a_m58 => wtm_at "lec"); (case' b_m58 => wtm_at "le")))
local macro_rules | `(tactic| wtm_at "ret") => `(tactic| first
  | (wtm_at "reto")
  | (refine' s1_retE ?e_m59 ?sd_m59; (case' e_m59 => wtm_at "ev"); try (case sd_m59 => rfl)))
local macro_rules | `(tactic| wtm_at "st") => `(tactic| first | (wtm_at "set") | (wtm_at "app") | (wtm_at "put") | (wtm_at "ret"))
local macro_rules | `(tactic| wtm_at "iter") => `(tactic| first
  | (refine' rangeF ?q1_m60 ?q2_m60 ?q3_m60 ?a_m60 ?sd_m60 ?sd2_m60; (case' q1_m60 => assumption); (case' q2_m60 => decide +kernel); (case' q3_m60 => with_reducible assumption); (case' a_m60 => wtm_at "ev"); (case' sd_m60 => try (wtm_at "sd")); (case' sd2_m60 => try (wtm_at "sd")))
  | (refine' range2F ?q1_m61 ?q2_m61 ?q3_m61 ?a_m61 ?sd_m61 ?sd2_m61 ?sd3_m61 ?sd4_m61; (case' q1_m61 => assumption); (case' q2_m61 => decide +kernel); (case' q3_m61 => with_reducible assumption); (case' a_m61 => wtm_at "args"); (case' sd_m61 => try (wtm_at "sd")); (case' sd2_m61 => try (wtm_at "sd")); (case' sd3_m61 => try (wtm_at "sd")); (case' sd4_m61 => try (wtm_at "sd")))
  | (refine' ei_dat ?a_m62 ?r_m62; (case' a_m62 => wtm_at "ev"); (case' r_m62 => wtm_at "seqd"))
  | (refine' ei_dat (ev_frz ?a_m63) SeqD.lst; (case' a_m63 => wtm_at "ev")))
namespace W
open PySem PySem.Spec PyProof.Rows L2 LR
section
variable {P : Program} {w : World} {K : PySem.W.Frag} {mg : Str → Option Value} {base : Heap}
inductive rOn : List PyData → Res → Prop
  | mk {P n : Int} (h : 0 < P) : rOn [.int P, .int n] (.ok (.dat (.int (n % P))))
local macro_rules | `(tactic| wtm_at "nm") => `(tactic| first
  | ((with_reducible show Ev _ _ (.Name "P" _) _); exact nmF (by assumption) 0 (by rfl) rfl (by decide +kernel) (by decide +kernel) (by decide +kernel))
  | ((with_reducible show Ev _ _ (.Name "n" _) _); exact nmF (by assumption) 1 (by rfl) rfl (by decide +kernel) (by decide +kernel) (by decide +kernel)))
local macro_rules | `(tactic| wtm_at "own") => `(tactic| first
  | ((with_reducible show EvS _ _ (.Name "P" _) _ _); exact ownF (by assumption) 0 (by rfl) rfl (by decide +kernel) (by decide +kernel) (by decide +kernel))
  | ((with_reducible show EvS _ _ (.Name "n" _) _ _); exact ownF (by assumption) 1 (by rfl) rfl (by decide +kernel) (by decide +kernel) (by decide +kernel)))
local macro_rules | `(tactic| wtm_at "ownl") => `(tactic| first
  | ((with_reducible show EvL _ _ (.Name "P" _) _); exact ownlF (by assumption) 0 (by rfl) rfl (by decide +kernel) (by decide +kernel) (by decide +kernel))
  | ((with_reducible show EvL _ _ (.Name "n" _) _); exact ownlF (by assumption) 1 (by rfl) rfl (by decide +kernel) (by decide +kernel) (by decide +kernel)))
local macro_rules | `(tactic| wtm_at "set") => `(tactic| first
  | ((with_reducible show S1 _ _ (.Assign [.Name "P" _] _ _) _); refine' setF ?st1 ?st2 0 ?st3 ?st4 ?ste ?st5; (case' st1 => assumption); (case' st2 => assumption); (case' st3 => rfl); (case' st4 => decide +kernel); (case' ste => wtm_at "ev"); (case' st5 => rfl))
  | ((with_reducible show S1 _ _ (.Assign [.Name "n" _] _ _) _); refine' setF ?st1 ?st2 1 ?st3 ?st4 ?ste ?st5; (case' st1 => assumption); (case' st2 => assumption); (case' st3 => rfl); (case' st4 => decide +kernel); (case' ste => wtm_at "ev"); (case' st5 => rfl)))
local macro_rules | `(tactic| wtm_at "app") => `(tactic| first
  | ((with_reducible show S1 _ _ (.Expr (.Call (.Attribute (.Name "P" _) _ _) _ _ _) _) _); refine' appF ?ap1 0 ?ap2 ?ap3 ?ap4 ?ape ?aps ?ap5 ?ap6; (case' ap1 => assumption); (case' ap2 => rfl); (case' ap3 => rfl); (case' ap4 => decide +kernel); (case' ape => wtm_at "ev"); (case' aps => try (wtm_at "sz")); (case' ap5 => decide +kernel); (case' ap6 => decide +kernel))
  | ((with_reducible show S1 _ _ (.Expr (.Call (.Attribute (.Name "n" _) _ _) _ _ _) _) _); refine' appF ?ap1 1 ?ap2 ?ap3 ?ap4 ?ape ?aps ?ap5 ?ap6; (case' ap1 => assumption); (case' ap2 => rfl); (case' ap3 => rfl); (case' ap4 => decide +kernel); (case' ape => wtm_at "ev"); (case' aps => try (wtm_at "sz")); (case' ap5 => decide +kernel); (case' ap6 => decide +kernel)))
local macro_rules | `(tactic| wtm_at "put") => `(tactic| first
  | ((with_reducible show S1 _ _ (.Assign [.Subscript (.Name "P" _) _ _] _ _) _); refine' putF ?pu1 0 ?pu2 ?pu3 ?pu4 ?pue ?pui ?pu5 ?pu6 ?pu7 ?pu8; (case' pu1 => assumption); (case' pu2 => rfl); (case' pu3 => rfl); (case' pu4 => decide +kernel); (case' pue => wtm_at "ev"); (case' pui => wtm_at "ev"); (case' pu5 => try (wtm_at "sd")); (case' pu6 => try (wtm_at "sd")); (case' pu7 => decide +kernel); (case' pu8 => decide +kernel))
  | ((with_reducible show S1 _ _ (.Assign [.Subscript (.Name "n" _) _ _] _ _) _); refine' putF ?pu1 1 ?pu2 ?pu3 ?pu4 ?pue ?pui ?pu5 ?pu6 ?pu7 ?pu8; (case' pu1 => assumption); (case' pu2 => rfl); (case' pu3 => rfl); (case' pu4 => decide +kernel); (case' pue => wtm_at "ev"); (case' pui => wtm_at "ev"); (case' pu5 => try (wtm_at "sd")); (case' pu6 => try (wtm_at "sd")); (case' pu7 => decide +kernel); (case' pu8 => decide +kernel)))
local macro_rules | `(tactic| wtm_at "reto") => `(tactic| first
  | ((with_reducible show S1 _ _ (.Return (some (.Name "P" _)) _) _); exact retOF (by assumption) 0 (by rfl) rfl (by decide +kernel) (by decide +kernel) (by decide +kernel))
  | ((with_reducible show S1 _ _ (.Return (some (.Name "n" _)) _) _); exact retOF (by assumption) 1 (by rfl) rfl (by decide +kernel) (by decide +kernel) (by decide +kernel)))
local macro_rules | `(tactic| wtm_at "tgt") => `(tactic| first
  | ((with_reducible show PG _ (.Name "P" _) _); exact tgF (by assumption) (by assumption) 0 (by rfl) (by decide +kernel))
  | ((with_reducible show PG _ (.Name "n" _) _); exact tgF (by assumption) (by assumption) 1 (by rfl) (by decide +kernel)))
theorem ok_on {f : Addr} {fd : FuncData} (F : Fun K "on" "on" s_on f fd) (hm : mg "on" = some (.ref f)) (b : Binds K fd ["P", "n"] []) : Fn P w K mg base 1 "on" ["P", "n"] rOn := by
  refine fnF F hm b sc_on (fun ds r h => by cases h; rfl) fun X hX hT ds r h => ?_
  cases h with
  | mk h =>
    refine' sm_end ?s1
    case' s1 => wtm_at "st"
def wsum (f s : List Int) (k : Nat) : Int := f.getD s.length 0 + ((List.range k).map fun j => f.getD j 0 * s.getD j 0).sum
theorem wsum_succ (f s : List Int) (k : Nat) : wsum f s (k + 1) = wsum f s k + f.getD k 0 * s.getD k 0 := by
  unfold wsum
  rw [List.range_succ, List.map_append, List.sum_append]
  simp
  omega
def worth (P : Int) (f s : List Int) : Int := wsum f s s.length % P
inductive rWorth : List PyData → Res → Prop
  | mk {P : Int} {f s : List Int} (h : 0 < P) (hl : f.length = s.length + 1) (hz : s.length ≤ 100) (hf : ∀ x ∈ f, 0 ≤ x ∧ x < 10000) : rWorth [.int P, tI f, tI s] (.ok (.dat (.int (worth P f s))))
theorem getD_mem {α : Type} {l : List α} {i : Nat} {z : α} (h : i < l.length) : l.getD i z ∈ l := by
  rw [List.getD_eq_getElem?_getD, List.getElem?_eq_getElem h]
  exact List.getElem_mem h
def turned (P : Int) (t : List (List Int)) (s : List Int) : List Int := t.map fun f => worth P f s
/-- a form of so many boxes -/
def Frm (n : Nat) (f : List Int) : Prop := f.length = n + 1 ∧ ∀ x ∈ f, 0 ≤ x ∧ x < 10000
inductive rTurned : List PyData → Res → Prop
  | mk {P : Int} {t : List (List Int)} {s : List Int} (h : 0 < P) (ht : ∀ f ∈ t, Frm s.length f) (hz : s.length ≤ 100) (hz2 : t.length ≤ 100) : rTurned [.int P, tT t, tI s] (.ok (.dat (tI (turned P t s))))
end
end W

namespace W
open PySem PySem.Spec PyProof.Rows L2 LR
section
variable {P : Program} {w : World} {K : PySem.W.Frag} {mg : Str → Option Value} {base : Heap}
def boxForm (n : Nat) (x : Int) : List Int := (List.range (n + 1)).map fun k : Nat => if decide ((k : Int) = x) then 1 else 0
def idle (n : Nat) : List (List Int) := (List.range n).map fun x : Nat => boxForm n x
theorem boxForm_frm (n : Nat) (x : Int) : Frm n (boxForm n x) := ⟨by simp [boxForm], fun y hy => by
  simp only [boxForm, List.mem_map] at hy
  obtain ⟨k, _, rfl⟩ := hy
  split <;> omega⟩
theorem idle_len (n : Nat) : (idle n).length = n := by simp [idle]
theorem idle_frm {n : Nat} : ∀ f ∈ idle n, Frm n f := fun f hf => by
  simp only [idle, List.mem_map] at hf
  obtain ⟨x, _, rfl⟩ := hf
  exact boxForm_frm n x
inductive rBox : List PyData → Res → Prop
  | mk {n : Nat} {x : Int} (h : n ≤ 100) : rBox [.int n, .int x] (.ok (.dat (tI (boxForm n x))))
inductive rIdle : List PyData → Res → Prop
  | mk {n : Nat} (h : n ≤ 100) : rIdle [.int n] (.ok (.dat (tT (idle n))))
def setting (n : Nat) (x : Nat) (f : List Int) : List (List Int) := (idle n).set x f
inductive rSetting : List PyData → Res → Prop
  | mk {n x : Nat} {f : List Int} (h : n ≤ 100) (hx : x < n) : rSetting [.int n, .int x, tI f] (.ok (.dat (tT (setting n x f))))
def rowAt (P : Int) (one : List (List Int)) (f : List Int) (i : Nat) : Nat → Int
  | 0 => if i = one.length then f.getD one.length 0 else 0
  | k + 1 => (rowAt P one f i k + f.getD k 0 * (one.getD k []).getD i 0) % P
def rowK (P : Int) (one : List (List Int)) (f : List Int) (k : Nat) : List Int := (List.range (one.length + 1)).map fun i => rowAt P one f i k
def formBehind (P : Int) (one : List (List Int)) (f : List Int) : List Int := rowK P one f one.length
/-- in the midst of a turn -/
def rowM (P : Int) (one : List (List Int)) (f : List Int) (k m : Nat) : List Int := (List.range (one.length + 1)).map fun i => if i < m then rowAt P one f i (k + 1) else rowAt P one f i k
theorem rowM_zero (P : Int) (one : List (List Int)) (f : List Int) (k : Nat) : rowM P one f k 0 = rowK P one f k := by simp [rowM, rowK]
theorem rowM_all (P : Int) (one : List (List Int)) (f : List Int) (k : Nat) : rowM P one f k (one.length + 1) = rowK P one f (k + 1) := by
  unfold rowM rowK
  refine List.map_congr_left fun i hi => ?_
  rw [if_pos (List.mem_range.mp hi)]
theorem rowM_len (P : Int) (one : List (List Int)) (f : List Int) (k m : Nat) : (rowM P one f k m).length = one.length + 1 := by simp [rowM]
theorem rowM_get {P : Int} {one : List (List Int)} {f : List Int} {k m : Nat} (h : m < one.length + 1) : (rowM P one f k m).getD m 0 = rowAt P one f m k := by
  unfold rowM
  rw [List.getD_eq_getElem?_getD, List.getElem?_map, List.getElem?_range h]
  simp
theorem rowM_set {P : Int} {one : List (List Int)} {f : List Int} {k m : Nat} : (rowM P one f k m).set m (rowAt P one f m (k + 1)) = rowM P one f k (m + 1) := by
  unfold rowM
  apply List.ext_getElem?
  intro j
  rw [List.getElem?_set]
  simp only [List.length_map, List.length_range, List.getElem?_map]
  by_cases hj : j < one.length + 1
  · rw [List.getElem?_range hj]
    by_cases hm : m = j
    · subst hm
      simp [hj]
    · rw [if_neg hm]
      simp only [Option.map_some]
      congr 1
      by_cases h1 : j < m
      · rw [if_pos h1, if_pos (by omega)]
      · rw [if_neg h1, if_neg (by omega)]
  · rw [List.getElem?_eq_none (by simpa using hj)]
    split
    · rw [if_neg (by omega)]; rfl
    · rfl
theorem rowK_zero (P : Int) (one : List (List Int)) (f : List Int) : rowK P one f 0 = List.replicate one.length 0 ++ [f.getD one.length 0] := by
  unfold rowK
  rw [List.range_succ, List.map_append]
  congr 1
  · apply List.ext_getElem?
    intro j
    by_cases hj : j < one.length
    · rw [List.getElem?_map, List.getElem?_range hj, List.getElem?_replicate, if_pos hj]
      simp [rowAt]; omega
    · rw [List.getElem?_eq_none (by simpa using hj), List.getElem?_eq_none (by simpa using hj)]
  · simp [rowAt]
inductive rBehind : List PyData → Res → Prop
  | mk {P : Int} {one : List (List Int)} {f : List Int} (h : 0 < P) (hn : one.length ≤ 100) (h1 : ∀ g ∈ one, Frm one.length g) (hf : Frm one.length f) : rBehind [.int P, tT one, tI f] (.ok (.dat (tI (formBehind P one f))))
theorem formBehind_len (P : Int) (one : List (List Int)) (f : List Int) : (formBehind P one f).length = one.length + 1 := by simp [formBehind, rowK]
def thenT (P : Int) (one other : List (List Int)) : List (List Int) := other.map fun f => formBehind P one f
inductive rThen : List PyData → Res → Prop
  | mk {P : Int} {one other : List (List Int)} (h : 0 < P) (hn : one.length ≤ 100) (hm : other.length ≤ 100) (h1 : ∀ g ∈ one, Frm one.length g) (h2 : ∀ g ∈ other, Frm one.length g) : rThen [.int P, tT one, tT other] (.ok (.dat (tT (thenT P one other))))
end
end W

namespace W
/-! sums and congruence -/
def sm : Nat → (Nat → Int) → Int
  | 0, _ => 0
  | k + 1, g => sm k g + g k
theorem sm_congr : ∀ {n : Nat} {g h : Nat → Int}, (∀ k, k < n → g k = h k) → sm n g = sm n h
  | 0, _, _, _ => rfl
  | n + 1, g, h, e => by
    show sm n g + g n = sm n h + h n
    rw [sm_congr (n := n) fun k hk => e k (by omega), e n (by omega)]
theorem sm_add : ∀ {n : Nat} {g h : Nat → Int}, sm n (fun k => g k + h k) = sm n g + sm n h
  | 0, _, _ => rfl
  | n + 1, g, h => by
    show sm n (fun k => g k + h k) + (g n + h n) = (sm n g + g n) + (sm n h + h n)
    rw [sm_add (n := n)]; omega
theorem sm_mulL {c : Int} : ∀ {n : Nat} {g : Nat → Int}, sm n (fun k => c * g k) = c * sm n g
  | 0, _ => by simp [sm]
  | n + 1, g => by
    show sm n (fun k => c * g k) + c * g n = c * (sm n g + g n)
    rw [sm_mulL (n := n), Int.mul_add]
theorem sm_mulR {c : Int} {n : Nat} {g : Nat → Int} : sm n (fun k => g k * c) = sm n g * c := by
  rw [Int.mul_comm, ← sm_mulL]
  exact sm_congr fun k _ => Int.mul_comm _ _
theorem sm_zero : ∀ {n : Nat}, sm n (fun _ => 0) = 0
  | 0 => rfl
  | n + 1 => by show sm n (fun _ => 0) + 0 = 0; rw [sm_zero (n := n)]; rfl
theorem sm_swap {m : Nat} {g : Nat → Nat → Int} : ∀ {n : Nat}, sm n (fun i => sm m (fun j => g i j)) = sm m (fun j => sm n (fun i => g i j))
  | 0 => by show 0 = sm m (fun _ => 0); rw [sm_zero]
  | n + 1 => by
    show sm n (fun i => sm m (fun j => g i j)) + sm m (fun j => g n j) = sm m (fun j => sm n (fun i => g i j) + g n j)
    rw [sm_add, sm_swap (n := n)]
theorem sm_pick {x : Nat} {g : Nat → Int} : ∀ {n : Nat}, sm n (fun k => if k = x then g k else 0) = if x < n then g x else 0
  | 0 => by simp [sm]
  | n + 1 => by
    show sm n (fun k => if k = x then g k else 0) + (if n = x then g n else 0) = _
    rw [sm_pick (n := n)]
    by_cases h : n = x
    · subst h; simp
    · by_cases h2 : x < n
      · simp [h, h2, show x < n + 1 by omega]
      · simp [h, h2, show ¬ x < n + 1 by omega]
def Em (P a b : Int) : Prop := a % P = b % P
section
variable {P a b c d : Int}
theorem Em.refl : Em P a a := rfl
theorem Em.symm (h : Em P a b) : Em P b a := Eq.symm h
theorem Em.trans (h : Em P a b) (k : Em P b c) : Em P a c := Eq.trans h k
theorem Em.of_eq (h : a = b) : Em P a b := h ▸ Em.refl
theorem Em.mod : Em P (a % P) a := by show a % P % P = a % P; rw [Int.emod_emod_of_dvd _ (Int.dvd_refl P)]
theorem Em.add (h : Em P a b) (k : Em P c d) : Em P (a + c) (b + d) := by
  show (a + c) % P = (b + d) % P
  rw [Int.add_emod a c, Int.add_emod b d, h, k]
theorem Em.mul (h : Em P a b) (k : Em P c d) : Em P (a * c) (b * d) := by
  show (a * c) % P = (b * d) % P
  rw [Int.mul_emod a c, Int.mul_emod b d, h, k]
theorem Em.sub (h : Em P a b) (k : Em P c d) : Em P (a - c) (b - d) := by
  show (a - c) % P = (b - d) % P
  rw [Int.sub_emod a c, Int.sub_emod b d, h, k]
theorem Em.sm : ∀ {n : Nat} {g h : Nat → Int}, (∀ k, k < n → Em P (g k) (h k)) → Em P (sm n g) (sm n h)
  | 0, _, _, _ => rfl
  | n + 1, g, h, e => Em.add (Em.sm fun k hk => e k (by omega)) (e n (by omega))
theorem Em.eq (h : Em P a b) (a0 : 0 ≤ a) (a1 : a < P) (b0 : 0 ≤ b) (b1 : b < P) : a = b := by
  have e : a % P = b % P := h
  rwa [Int.emod_eq_of_lt a0 a1, Int.emod_eq_of_lt b0 b1] at e
end
/-! lists by their items -/
theorem ext_getD {α : Type} {xs ys : List α} (z : α) (hl : xs.length = ys.length) (h : ∀ i, i < xs.length → xs.getD i z = ys.getD i z) : xs = ys := by
  apply List.ext_getElem?
  intro i
  by_cases hi : i < xs.length
  · have := h i hi
    rw [List.getD_eq_getElem?_getD, List.getD_eq_getElem?_getD] at this
    rw [List.getElem?_eq_getElem hi, List.getElem?_eq_getElem (by omega : i < ys.length)] at this ⊢
    simpa using this
  · rw [List.getElem?_eq_none (by omega), List.getElem?_eq_none (by omega)]
theorem getD_map {α β : Type} (f : α → β) {xs : List α} {i : Nat} (z : α) (y : β) (h : i < xs.length) : (xs.map f).getD i y = f (xs.getD i z) := by
  rw [List.getD_eq_getElem?_getD, List.getD_eq_getElem?_getD, List.getElem?_map, List.getElem?_eq_getElem h]
  rfl
theorem getD_rangeMap {β : Type} (f : Nat → β) {n i : Nat} (y : β) (h : i < n) : ((List.range n).map f).getD i y = f i := by
  rw [List.getD_eq_getElem?_getD, List.getElem?_map, List.getElem?_range h]
  rfl
/-- on the wheel -/
def OnW (P : Int) (f : List Int) : Prop := ∀ x ∈ f, 0 ≤ x ∧ x < P
/-- a table of n boxes on the wheel -/
structure Tbl (P : Int) (n : Nat) (t : List (List Int)) : Prop where
  len : t.length = n
  row : ∀ f ∈ t, f.length = n + 1 ∧ OnW P f
theorem Tbl.frm {P : Int} {n : Nat} {t : List (List Int)} (h : Tbl P n t) (hP : P ≤ 9999) : ∀ f ∈ t, Frm n f := fun f hf => ⟨(h.row f hf).1, fun x hx => by have := (h.row f hf).2 x hx; omega⟩
theorem Tbl.frm' {P : Int} {n : Nat} {t : List (List Int)} (h : Tbl P n t) (hP : P ≤ 9999) : ∀ f ∈ t, Frm t.length f := by rw [h.len]; exact h.frm hP
def ini (n : Nat) (f : List Int) (i : Nat) : Int := if i = n then f.getD n 0 else 0
section
variable {P : Int} {one : List (List Int)} {f : List Int}
theorem rowAt_em (i : Nat) : ∀ k, Em P (rowAt P one f i k) (ini one.length f i + sm k fun j => f.getD j 0 * (one.getD j []).getD i 0)
  | 0 => by show Em P (if i = one.length then _ else _) _; exact Em.of_eq (by simp [ini, sm])
  | k + 1 => by
    show Em P ((rowAt P one f i k + f.getD k 0 * (one.getD k []).getD i 0) % P) _
    refine Em.mod.trans ?_
    have := (rowAt_em i k).add (Em.refl (P := P) (a := f.getD k 0 * (one.getD k []).getD i 0))
    exact this.trans (Em.of_eq (Int.add_assoc _ _ _))
theorem behind_get {i : Nat} (hn : 1 ≤ one.length) (hi : i < one.length + 1) : (formBehind P one f).getD i 0 = (ini one.length f i + sm one.length fun j => f.getD j 0 * (one.getD j []).getD i 0) % P := by
  unfold formBehind rowK
  rw [getD_rangeMap _ _ hi]
  have e := rowAt_em (P := P) (one := one) (f := f) i one.length
  have e2 : rowAt P one f i one.length = rowAt P one f i one.length % P := by
    obtain ⟨m, hm⟩ : ∃ m, one.length = m + 1 := ⟨one.length - 1, by omega⟩
    rw [hm]
    show (_ % P) = (_ % P) % P
    rw [Int.emod_emod_of_dvd _ (Int.dvd_refl P)]
  rw [e2]
  exact e
theorem behind_on (hn : 1 ≤ one.length) (hP : 0 < P) : OnW P (formBehind P one f) := fun x hx => by
  obtain ⟨i, hi, rfl⟩ := List.mem_iff_getElem.mp hx
  have h1 := behind_get (P := P) (one := one) (f := f) hn (by rw [formBehind_len] at hi; exact hi)
  rw [List.getD_eq_getElem?_getD, List.getElem?_eq_getElem hi] at h1
  simp only [Option.getD_some] at h1
  rw [h1]
  exact ⟨Int.emod_nonneg _ (by omega), Int.emod_lt_of_pos _ hP⟩
end
theorem then_tbl {P : Int} {n : Nat} {one other : List (List Int)} (hP : 0 < P) (hn : 1 ≤ n) (h1 : Tbl P n one) (h2 : Tbl P n other) : Tbl P n (thenT P one other) where
  len := by simp [thenT, h2.len]
  row := fun f hf => by
    simp only [thenT, List.mem_map] at hf
    obtain ⟨g, _, rfl⟩ := hf
    exact ⟨by rw [formBehind_len, h1.len], behind_on (by rw [h1.len]; exact hn) hP⟩
theorem then_get {P : Int} {one other : List (List Int)} {k : Nat} (h : k < other.length) : (thenT P one other).getD k [] = formBehind P one (other.getD k []) := getD_map _ [] [] h
/-- one and then other: its numbers -/
theorem then_num {P : Int} {n : Nat} {one other : List (List Int)} {k i : Nat} (hn : 1 ≤ n) (h1 : Tbl P n one) (h2 : Tbl P n other) (hk : k < n) (hi : i < n + 1) :
    ((thenT P one other).getD k []).getD i 0 = (ini n (other.getD k []) i + sm n fun j => (other.getD k []).getD j 0 * (one.getD j []).getD i 0) % P := by
  rw [then_get (by rw [h2.len]; exact hk)]
  have := behind_get (P := P) (one := one) (f := other.getD k []) (i := i) (by rw [h1.len]; exact hn) (by rw [h1.len]; exact hi)
  rw [h1.len] at this
  exact this
theorem Tbl.rowLen {P : Int} {n : Nat} {t : List (List Int)} (h : Tbl P n t) {k : Nat} (hk : k < n) : (t.getD k []).length = n + 1 := (h.row _ (getD_mem (by rw [h.len]; exact hk))).1
theorem Tbl.num {P : Int} {n : Nat} {t : List (List Int)} (h : Tbl P n t) {k i : Nat} (hk : k < n) (hi : i < n + 1) : 0 ≤ (t.getD k []).getD i 0 ∧ (t.getD k []).getD i 0 < P :=
  (h.row _ (getD_mem (by rw [h.len]; exact hk))).2 _ (getD_mem (by rw [h.rowLen hk]; exact hi))
theorem tbl_ext {P : Int} {n : Nat} {s t : List (List Int)} (h1 : Tbl P n s) (h2 : Tbl P n t) (h : ∀ k i, k < n → i < n + 1 → Em P ((s.getD k []).getD i 0) ((t.getD k []).getD i 0)) : s = t := by
  refine ext_getD [] (by rw [h1.len, h2.len]) fun k hk => ?_
  rw [h1.len] at hk
  refine ext_getD 0 (by rw [h1.rowLen hk, h2.rowLen hk]) fun i hi => ?_
  rw [h1.rowLen hk] at hi
  exact (h k i hk hi).eq (h1.num hk hi).1 (h1.num hk hi).2 (h2.num hk hi).1 (h2.num hk hi).2
theorem then_assoc {P : Int} {n : Nat} {a b c : List (List Int)} (hP : 0 < P) (hn : 1 ≤ n) (ha : Tbl P n a) (hb : Tbl P n b) (hc : Tbl P n c) : thenT P (thenT P a b) c = thenT P a (thenT P b c) := by
  have hab := then_tbl hP hn ha hb
  have hbc := then_tbl hP hn hb hc
  refine tbl_ext (then_tbl hP hn hab hc) (then_tbl hP hn ha hbc) fun k i hk hi => ?_
  rw [then_num hn hab hc hk hi, then_num hn ha hbc hk hi]
  refine Em.mod.trans (Em.trans ?_ Em.mod.symm)
  have lc : (c.getD k []).length = n + 1 := hc.rowLen hk
  -- left
  have e1 : Em P (sm n fun j => (c.getD k []).getD j 0 * ((thenT P a b).getD j []).getD i 0) (sm n fun j => (c.getD k []).getD j 0 * (ini n (b.getD j []) i + sm n fun l => (b.getD j []).getD l 0 * (a.getD l []).getD i 0)) :=
    Em.sm fun j hj => Em.refl.mul (by rw [then_num hn ha hb hj hi]; exact Em.mod)
  -- right
  have e2 : Em P (sm n fun l => ((thenT P b c).getD k []).getD l 0 * (a.getD l []).getD i 0) (sm n fun l => (sm n fun j => (c.getD k []).getD j 0 * (b.getD j []).getD l 0) * (a.getD l []).getD i 0) :=
    Em.sm fun l hl => Em.mul (by
      rw [then_num hn hb hc hk (by omega)]
      refine Em.mod.trans (Em.of_eq ?_)
      simp [ini, show l ≠ n by omega]) Em.refl
  have e3 : Em P (ini n ((thenT P b c).getD k []) i) (ini n (c.getD k []) i + sm n fun j => (c.getD k []).getD j 0 * ini n (b.getD j []) i) := by
    unfold ini
    by_cases hin : i = n
    · simp only [hin, if_true]
      rw [then_num hn hb hc hk (by omega)]
      refine Em.mod.trans (Em.of_eq ?_)
      simp [ini]
    · simp only [hin, if_false]
      exact Em.of_eq (by simp [sm_zero])
  refine (Em.refl.add e1).trans (Em.trans (Em.of_eq ?_) (e3.add e2).symm)
  have e4 : (sm n fun j => (c.getD k []).getD j 0 * (ini n (b.getD j []) i + sm n fun l => (b.getD j []).getD l 0 * (a.getD l []).getD i 0)) =
      (sm n fun j => (c.getD k []).getD j 0 * ini n (b.getD j []) i) + sm n fun j => sm n fun l => (c.getD k []).getD j 0 * (b.getD j []).getD l 0 * (a.getD l []).getD i 0 := by
    rw [← sm_add]
    refine sm_congr fun j _ => ?_
    rw [Int.mul_add, ← sm_mulL]
    congr 1
    exact sm_congr fun l _ => (Int.mul_assoc _ _ _).symm
  have e5 : (sm n fun l => (sm n fun j => (c.getD k []).getD j 0 * (b.getD j []).getD l 0) * (a.getD l []).getD i 0) = sm n fun j => sm n fun l => (c.getD k []).getD j 0 * (b.getD j []).getD l 0 * (a.getD l []).getD i 0 := by
    rw [sm_swap]
    exact sm_congr fun l _ => sm_mulR.symm
  rw [e4, e5]
  omega
theorem box_get {n : Nat} {x i : Nat} (hi : i < n + 1) : (boxForm n (x : Int)).getD i 0 = if i = x then 1 else 0 := by
  unfold boxForm
  rw [getD_rangeMap _ _ hi]
  by_cases h : i = x
  · simp [h]
  · simp [h]; omega
theorem idle_tbl {P : Int} {n : Nat} (hP : 1 < P) : Tbl P n (idle n) where
  len := idle_len n
  row := fun f hf => by
    simp only [idle, List.mem_map] at hf
    obtain ⟨x, _, rfl⟩ := hf
    refine ⟨(boxForm_frm n x).1, fun y hy => ?_⟩
    simp only [boxForm, List.mem_map] at hy
    obtain ⟨k, _, rfl⟩ := hy
    split <;> omega
theorem idle_num {n x i : Nat} (hx : x < n) (hi : i < n + 1) : ((idle n).getD x []).getD i 0 = if i = x then 1 else 0 := by
  unfold idle
  rw [getD_rangeMap _ _ hx, box_get hi]
theorem idle_then {P : Int} {n : Nat} {t : List (List Int)} (hP : 1 < P) (hn : 1 ≤ n) (h : Tbl P n t) : thenT P (idle n) t = t := by
  refine tbl_ext (then_tbl (by omega) hn (idle_tbl hP) h) h fun k i hk hi => ?_
  rw [then_num hn (idle_tbl hP) h hk hi]
  refine Em.mod.trans (Em.of_eq ?_)
  have e : (sm n fun j => (t.getD k []).getD j 0 * ((idle n).getD j []).getD i 0) = sm n fun j => if j = i then (t.getD k []).getD j 0 else 0 :=
    sm_congr fun j hj => by
      rw [idle_num hj hi]
      by_cases h1 : j = i
      · simp [h1]
      · simp [h1, show ¬ i = j from fun e => h1 e.symm]
  rw [e, sm_pick]
  unfold ini
  by_cases h1 : i = n
  · simp [h1]
  · simp [h1, show i < n by omega]
theorem then_idle {P : Int} {n : Nat} {t : List (List Int)} (hP : 1 < P) (hn : 1 ≤ n) (h : Tbl P n t) : thenT P t (idle n) = t := by
  refine tbl_ext (then_tbl (by omega) hn h (idle_tbl hP)) h fun k i hk hi => ?_
  rw [then_num hn h (idle_tbl hP) hk hi]
  refine Em.mod.trans (Em.of_eq ?_)
  have e : (sm n fun j => ((idle n).getD k []).getD j 0 * (t.getD j []).getD i 0) = sm n fun j => if j = k then (t.getD j []).getD i 0 else 0 :=
    sm_congr fun j hj => by
      rw [idle_num hk (by omega)]
      by_cases h1 : j = k
      · simp [h1]
      · simp [h1]
  rw [e, sm_pick]
  have e2 : ini n ((idle n).getD k []) i = 0 := by
    unfold ini
    by_cases h1 : i = n
    · rw [if_pos h1, idle_num hk (by omega), if_neg (by omega)]
    · rw [if_neg h1]
  rw [e2, if_pos hk]
  omega
end W

namespace W
open PySem PySem.Spec PyProof.Rows L2 LR
section
variable {P : Program} {w : World} {K : PySem.W.Frag} {mg : Str → Option Value} {base : Heap}
def lawCell (sc : List Int) (k : Int) : Int := if k < sc.length then sc.getD k.toNat 0 else 0
inductive rCell : List PyData → Res → Prop
  | mk {s : List Int} {k : Int} (h : 0 ≤ k) : rCell [.list (s.map .int), .int k] (.ok (.dat (.int (lawCell s k))))
local macro_rules | `(tactic| wtm_at "nm") => `(tactic| first
  | ((with_reducible show Ev _ _ (.Name "script" _) _); exact nmF (by assumption) 0 (by rfl) rfl (by decide +kernel) (by decide +kernel) (by decide +kernel))
  | ((with_reducible show Ev _ _ (.Name "k" _) _); exact nmF (by assumption) 1 (by rfl) rfl (by decide +kernel) (by decide +kernel) (by decide +kernel)))
local macro_rules | `(tactic| wtm_at "own") => `(tactic| first
  | ((with_reducible show EvS _ _ (.Name "script" _) _ _); exact ownF (by assumption) 0 (by rfl) rfl (by decide +kernel) (by decide +kernel) (by decide +kernel))
  | ((with_reducible show EvS _ _ (.Name "k" _) _ _); exact ownF (by assumption) 1 (by rfl) rfl (by decide +kernel) (by decide +kernel) (by decide +kernel)))
local macro_rules | `(tactic| wtm_at "ownl") => `(tactic| first
  | ((with_reducible show EvL _ _ (.Name "script" _) _); exact ownlF (by assumption) 0 (by rfl) rfl (by decide +kernel) (by decide +kernel) (by decide +kernel))
  | ((with_reducible show EvL _ _ (.Name "k" _) _); exact ownlF (by assumption) 1 (by rfl) rfl (by decide +kernel) (by decide +kernel) (by decide +kernel)))
local macro_rules | `(tactic| wtm_at "set") => `(tactic| first
  | ((with_reducible show S1 _ _ (.Assign [.Name "script" _] _ _) _); refine' setF ?st1 ?st2 0 ?st3 ?st4 ?ste ?st5; (case' st1 => assumption); (case' st2 => assumption); (case' st3 => rfl); (case' st4 => decide +kernel); (case' ste => wtm_at "ev"); (case' st5 => rfl))
  | ((with_reducible show S1 _ _ (.Assign [.Name "k" _] _ _) _); refine' setF ?st1 ?st2 1 ?st3 ?st4 ?ste ?st5; (case' st1 => assumption); (case' st2 => assumption); (case' st3 => rfl); (case' st4 => decide +kernel); (case' ste => wtm_at "ev"); (case' st5 => rfl)))
local macro_rules | `(tactic| wtm_at "app") => `(tactic| first
  | ((with_reducible show S1 _ _ (.Expr (.Call (.Attribute (.Name "script" _) _ _) _ _ _) _) _); refine' appF ?ap1 0 ?ap2 ?ap3 ?ap4 ?ape ?aps ?ap5 ?ap6; (case' ap1 => assumption); (case' ap2 => rfl); (case' ap3 => rfl); (case' ap4 => decide +kernel); (case' ape => wtm_at "ev"); (case' aps => try (wtm_at "sz")); (case' ap5 => decide +kernel); (case' ap6 => decide +kernel))
  | ((with_reducible show S1 _ _ (.Expr (.Call (.Attribute (.Name "k" _) _ _) _ _ _) _) _); refine' appF ?ap1 1 ?ap2 ?ap3 ?ap4 ?ape ?aps ?ap5 ?ap6; (case' ap1 => assumption); (case' ap2 => rfl); (case' ap3 => rfl); (case' ap4 => decide +kernel); (case' ape => wtm_at "ev"); (case' aps => try (wtm_at "sz")); (case' ap5 => decide +kernel); (case' ap6 => decide +kernel)))
local macro_rules | `(tactic| wtm_at "put") => `(tactic| first
  | ((with_reducible show S1 _ _ (.Assign [.Subscript (.Name "script" _) _ _] _ _) _); refine' putF ?pu1 0 ?pu2 ?pu3 ?pu4 ?pue ?pui ?pu5 ?pu6 ?pu7 ?pu8; (case' pu1 => assumption); (case' pu2 => rfl); (case' pu3 => rfl); (case' pu4 => decide +kernel); (case' pue => wtm_at "ev"); (case' pui => wtm_at "ev"); (case' pu5 => try (wtm_at "sd")); (case' pu6 => try (wtm_at "sd")); (case' pu7 => decide +kernel); (case' pu8 => decide +kernel))
  | ((with_reducible show S1 _ _ (.Assign [.Subscript (.Name "k" _) _ _] _ _) _); refine' putF ?pu1 1 ?pu2 ?pu3 ?pu4 ?pue ?pui ?pu5 ?pu6 ?pu7 ?pu8; (case' pu1 => assumption); (case' pu2 => rfl); (case' pu3 => rfl); (case' pu4 => decide +kernel); (case' pue => wtm_at "ev"); (case' pui => wtm_at "ev"); (case' pu5 => try (wtm_at "sd")); (case' pu6 => try (wtm_at "sd")); (case' pu7 => decide +kernel); (case' pu8 => decide +kernel)))
local macro_rules | `(tactic| wtm_at "reto") => `(tactic| first
  | ((with_reducible show S1 _ _ (.Return (some (.Name "script" _)) _) _); exact retOF (by assumption) 0 (by rfl) rfl (by decide +kernel) (by decide +kernel) (by decide +kernel))
  | ((with_reducible show S1 _ _ (.Return (some (.Name "k" _)) _) _); exact retOF (by assumption) 1 (by rfl) rfl (by decide +kernel) (by decide +kernel) (by decide +kernel)))
local macro_rules | `(tactic| wtm_at "tgt") => `(tactic| first
  | ((with_reducible show PG _ (.Name "script" _) _); exact tgF (by assumption) (by assumption) 0 (by rfl) (by decide +kernel))
  | ((with_reducible show PG _ (.Name "k" _) _); exact tgF (by assumption) (by assumption) 1 (by rfl) (by decide +kernel)))
theorem ok_cell {f : Addr} {fd : FuncData} (F : Fun K "_law_cell" "_law_cell" s__law_cell f fd) (hm : mg "_law_cell" = some (.ref f)) (b : Binds K fd ["script", "k"] []) (ml : mg "len" = none) : Fn P w K mg base 1 "_law_cell" ["script", "k"] rCell := by
  refine fnF F hm b sc__law_cell (fun ds r h => by cases h; rfl) fun X hX hT ds r h => ?_
  cases h with
  | @mk s k hk =>
    by_cases hl : k < s.length
    · refine' sm_end (s1_if ?c (fun _ => sm_end ?s1) fun h => ?f)
      case' c => wtm_at "test"
      case' s1 => rw [lawCell, if_pos hl]; wtm_at "st"
      case f => simp [hl] at h
    · refine' sm_cons (s1_if ?c2 (fun h => ?f2) fun _ => sm_nil) ?_
      case' c2 => wtm_at "test"
      case f2 => simp [hl] at h
      rw [lawCell, if_neg hl]
      refine' sm_end ?s2
      case' s2 => wtm_at "st"
/-! a prime -/
def smooth (n : Int) : Bool := ((List.range 98).filter fun i : Nat => decide (2 + (i : Int) < n)).any fun i : Nat => decide (n % (2 + (i : Int)) = 0)
def lstep : Nat → Int → Nat
  | 0, _ => 0
  | f + 1, n => if smooth n then lstep f (n + 1) + 1 else 0
theorem lstep_ok : ∀ (k f : Nat) (n : Int), k ≤ f → smooth (n + k) = false → (∀ i, i < lstep f n → smooth (n + i) = true) ∧ smooth (n + lstep f n) = false ∧ lstep f n ≤ k
  | 0, f, n, hf, h => by
    have h0 : smooth n = false := by simpa using h
    cases f with
    | zero => exact ⟨fun i hi => by simp [lstep] at hi, by simpa [lstep] using h0, by simp [lstep]⟩
    | succ f => simp [lstep, h0]
  | k + 1, 0, n, hf, h => by omega
  | k + 1, f + 1, n, hf, h => by
    cases h0 : smooth n with
    | false => simp [lstep, h0]
    | true =>
      have e : n + ((k + 1 : Nat) : Int) = (n + 1) + (k : Int) := by omega
      rw [e] at h
      obtain ⟨a, b, c⟩ := lstep_ok k f (n + 1) (by omega) h
      have e2 : lstep (f + 1) n = lstep f (n + 1) + 1 := by simp [lstep, h0]
      rw [e2]
      refine ⟨fun i hi => ?_, ?_, by omega⟩
      · cases i with
        | zero => simpa using h0
        | succ i =>
          have := a i (by omega)
          have e3 : n + ((i + 1 : Nat) : Int) = (n + 1) + (i : Int) := by omega
          rw [e3]; exact this
      · have e3 : n + ((lstep f (n + 1) + 1 : Nat) : Int) = (n + 1) + (lstep f (n + 1) : Int) := by omega
        rw [e3]; exact b
theorem smooth_9973 : smooth 9973 = false := by decide +kernel
def nextP (n : Int) : Int := n + lstep 10000 n
theorem nextP_ok {n : Int} (h1 : 3 ≤ n) (h2 : n ≤ 9973) : ∃ k : Nat, (∀ i, i < k → smooth (n + i) = true) ∧ smooth (n + k) = false ∧ nextP n = n + k ∧ n + k ≤ 9973 := by
  have e : n + ((9973 - n).toNat : Int) = 9973 := by omega
  obtain ⟨a, b, c⟩ := lstep_ok (9973 - n).toNat 10000 n (by omega) (by rw [e]; exact smooth_9973)
  exact ⟨lstep 10000 n, a, b, rfl, by omega⟩
/-- a prime of the wheel -/
structure Prm (p : Int) : Prop where
  lo : 3 ≤ p
  hi : p ≤ 9999
  no : ∀ d, 2 ≤ d → d < p → p % d ≠ 0
theorem prm_of {n : Int} (h1 : 3 ≤ n) (h2 : n ≤ 9999) (h : smooth n = false) : Prm n := by
  refine ⟨h1, h2, fun d hd hd2 hm => ?_⟩
  have key : ∀ d : Int, 2 ≤ d → d < n → d < 100 → n % d = 0 → False := fun d hd hd2 h100 hm => by
    unfold smooth at h
    rw [List.any_eq_false] at h
    have := h (d - 2).toNat (by
      rw [List.mem_filter]
      exact ⟨List.mem_range.mpr (by omega), decide_eq_true (by omega)⟩)
    have e : 2 + (((d - 2).toNat : Nat) : Int) = d := by omega
    rw [e] at this
    simp [hm] at this
  by_cases h100 : d < 100
  · exact key d hd hd2 h100 hm
  · obtain ⟨q, hq⟩ := Int.dvd_of_emod_eq_zero hm
    have q0 : 0 < q := by
      rcases Int.lt_or_le 0 q with z | z
      · exact z
      · have : d * q ≤ d * 0 := Int.mul_le_mul_of_nonneg_left z (by omega)
        omega
    have q1 : 2 ≤ q := by
      rcases Int.lt_or_le q 2 with z | z
      · have : q = 1 := by omega
        subst this
        omega
      · exact z
    have q100 : q < 100 := by
      rcases Int.lt_or_le q 100 with z | z
      · exact z
      · have : 100 * 100 ≤ d * q := Int.mul_le_mul (by omega) z (by omega) (by omega)
        omega
    refine key q q1 ?_ q100 ?_
    · have : 2 * q ≤ d * q := Int.mul_le_mul_of_nonneg_right hd (by omega)
      omega
    · rw [hq]; exact Int.mul_emod_left d q
def lawPrime (cell : Int) : Int := nextP (3 + cell % 9971)
theorem lawPrime_prm (cell : Int) : Prm (lawPrime cell) ∧ lawPrime cell ≤ 9973 := by
  unfold lawPrime
  obtain ⟨k, _, b, c, d⟩ := nextP_ok (n := 3 + cell % 9971) (by omega) (by omega)
  rw [c]
  exact ⟨prm_of (by omega) (by omega) b, d⟩
inductive rPrime : List PyData → Res → Prop
  | mk {c : Int} : rPrime [.int c] (.ok (.dat (.int (lawPrime c))))
theorem et_eq {X : Cx} {A : List C} {e : Expr} {v u : Bool} (h : Et X A e v) (hd : v = u) : Et X A e u := hd ▸ h
theorem evs_eq {X : Cx} {A : List C} {e : Expr} {k : Bool} {ds ds' : List PyData} (h : EvS X A e k ds) (hd : ds = ds') : EvS X A e k ds' := hd ▸ h
local macro_rules | `(tactic| wtm_at "nm") => `(tactic| first
  | ((with_reducible show Ev _ _ (.Name "cell" _) _); exact nmF (by assumption) 0 (by rfl) rfl (by decide +kernel) (by decide +kernel) (by decide +kernel))
  | ((with_reducible show Ev _ _ (.Name "n" _) _); exact nmF (by assumption) 1 (by rfl) rfl (by decide +kernel) (by decide +kernel) (by decide +kernel))
  | ((with_reducible show Ev _ _ (.Name "by" _) _); exact nmF (by assumption) 2 (by rfl) rfl (by decide +kernel) (by decide +kernel) (by decide +kernel)))
local macro_rules | `(tactic| wtm_at "own") => `(tactic| first
  | ((with_reducible show EvS _ _ (.Name "cell" _) _ _); exact ownF (by assumption) 0 (by rfl) rfl (by decide +kernel) (by decide +kernel) (by decide +kernel))
  | ((with_reducible show EvS _ _ (.Name "n" _) _ _); exact ownF (by assumption) 1 (by rfl) rfl (by decide +kernel) (by decide +kernel) (by decide +kernel))
  | ((with_reducible show EvS _ _ (.Name "by" _) _ _); exact ownF (by assumption) 2 (by rfl) rfl (by decide +kernel) (by decide +kernel) (by decide +kernel)))
local macro_rules | `(tactic| wtm_at "ownl") => `(tactic| first
  | ((with_reducible show EvL _ _ (.Name "cell" _) _); exact ownlF (by assumption) 0 (by rfl) rfl (by decide +kernel) (by decide +kernel) (by decide +kernel))
  | ((with_reducible show EvL _ _ (.Name "n" _) _); exact ownlF (by assumption) 1 (by rfl) rfl (by decide +kernel) (by decide +kernel) (by decide +kernel))
  | ((with_reducible show EvL _ _ (.Name "by" _) _); exact ownlF (by assumption) 2 (by rfl) rfl (by decide +kernel) (by decide +kernel) (by decide +kernel)))
local macro_rules | `(tactic| wtm_at "set") => `(tactic| first
  | ((with_reducible show S1 _ _ (.Assign [.Name "cell" _] _ _) _); refine' setF ?st1 ?st2 0 ?st3 ?st4 ?ste ?st5; (case' st1 => assumption); (case' st2 => assumption); (case' st3 => rfl); (case' st4 => decide +kernel); (case' ste => wtm_at "ev"); (case' st5 => rfl))
  | ((with_reducible show S1 _ _ (.Assign [.Name "n" _] _ _) _); refine' setF ?st1 ?st2 1 ?st3 ?st4 ?ste ?st5; (case' st1 => assumption); (case' st2 => assumption); (case' st3 => rfl); (case' st4 => decide +kernel); (case' ste => wtm_at "ev"); (case' st5 => rfl)))
local macro_rules | `(tactic| wtm_at "app") => `(tactic| first
  | ((with_reducible show S1 _ _ (.Expr (.Call (.Attribute (.Name "cell" _) _ _) _ _ _) _) _); refine' appF ?ap1 0 ?ap2 ?ap3 ?ap4 ?ape ?aps ?ap5 ?ap6; (case' ap1 => assumption); (case' ap2 => rfl); (case' ap3 => rfl); (case' ap4 => decide +kernel); (case' ape => wtm_at "ev"); (case' aps => try (wtm_at "sz")); (case' ap5 => decide +kernel); (case' ap6 => decide +kernel))
  | ((with_reducible show S1 _ _ (.Expr (.Call (.Attribute (.Name "n" _) _ _) _ _ _) _) _); refine' appF ?ap1 1 ?ap2 ?ap3 ?ap4 ?ape ?aps ?ap5 ?ap6; (case' ap1 => assumption); (case' ap2 => rfl); (case' ap3 => rfl); (case' ap4 => decide +kernel); (case' ape => wtm_at "ev"); (case' aps => try (wtm_at "sz")); (case' ap5 => decide +kernel); (case' ap6 => decide +kernel)))
local macro_rules | `(tactic| wtm_at "put") => `(tactic| first
  | ((with_reducible show S1 _ _ (.Assign [.Subscript (.Name "cell" _) _ _] _ _) _); refine' putF ?pu1 0 ?pu2 ?pu3 ?pu4 ?pue ?pui ?pu5 ?pu6 ?pu7 ?pu8; (case' pu1 => assumption); (case' pu2 => rfl); (case' pu3 => rfl); (case' pu4 => decide +kernel); (case' pue => wtm_at "ev"); (case' pui => wtm_at "ev"); (case' pu5 => try (wtm_at "sd")); (case' pu6 => try (wtm_at "sd")); (case' pu7 => decide +kernel); (case' pu8 => decide +kernel))
  | ((with_reducible show S1 _ _ (.Assign [.Subscript (.Name "n" _) _ _] _ _) _); refine' putF ?pu1 1 ?pu2 ?pu3 ?pu4 ?pue ?pui ?pu5 ?pu6 ?pu7 ?pu8; (case' pu1 => assumption); (case' pu2 => rfl); (case' pu3 => rfl); (case' pu4 => decide +kernel); (case' pue => wtm_at "ev"); (case' pui => wtm_at "ev"); (case' pu5 => try (wtm_at "sd")); (case' pu6 => try (wtm_at "sd")); (case' pu7 => decide +kernel); (case' pu8 => decide +kernel)))
local macro_rules | `(tactic| wtm_at "reto") => `(tactic| first
  | ((with_reducible show S1 _ _ (.Return (some (.Name "cell" _)) _) _); exact retOF (by assumption) 0 (by rfl) rfl (by decide +kernel) (by decide +kernel) (by decide +kernel))
  | ((with_reducible show S1 _ _ (.Return (some (.Name "n" _)) _) _); exact retOF (by assumption) 1 (by rfl) rfl (by decide +kernel) (by decide +kernel) (by decide +kernel)))
local macro_rules | `(tactic| wtm_at "tgt") => `(tactic| first
  | ((with_reducible show PG _ (.Name "cell" _) _); exact tgF (by assumption) (by assumption) 0 (by rfl) (by decide +kernel))
  | ((with_reducible show PG _ (.Name "n" _) _); exact tgF (by assumption) (by assumption) 1 (by rfl) (by decide +kernel)))
theorem ok_prime {f : Addr} {fd : FuncData} (F : Fun K "_law_prime" "_law_prime" s__law_prime f fd) (hm : mg "_law_prime" = some (.ref f)) (b : Binds K fd ["cell"] []) (ma : mg "any" = none) (mr : mg "range" = none) : Fn P w K mg base 1 "_law_prime" ["cell"] rPrime := by
  refine fnF F hm b sc__law_prime (fun ds r h => by cases h; rfl) fun X hX hT ds r h => ?_
  cases h with
  | @mk c =>
    unfold lawPrime
    refine' sm_cons ?sn ?_
    case' sn => wtm_at "st"
    generalize hn : 3 + c % 9971 = n
    obtain ⟨m, n1, n2, n3, n4⟩ := nextP_ok (n := n) (by omega) (by omega)
    rw [n3]
    refine' sm_cons ?w ?_
    case' w =>
      refine' whileV hX (fun i => [.dat (.int c), .dat (.int (n + i)), .un]) m (fun i => smooth (n + i)) ?l (fun i _ => ?t) n1 n2 fun i hi => ?s2
      case' l => wtm_at "le"
      case' t =>
        refine' et_ev ?v0
        case' v0 =>
         refine' ev_eq ?v1 ?e0
         case' v1 =>
          refine' anyF hX ?g0 ma ?s0
          case' g0 => decide +kernel
        case' s0 =>
          refine' evs_eq (evs_new ?a2) ?e2
          case' a2 =>
            refine' lcIf hX 2 (List.range 98) (fun j : Nat => .int (2 + (j : Int))) (fun j : Nat => decide (2 + (j : Int) < n + i)) (fun j : Nat => .bool (decide ((n + i) % (2 + (j : Int)) = 0))) ?i ?sr ?ok ?nn ?lx ?zz ?jj fun Y hY z hz => ⟨?t1, fun _ => ?e1⟩
            case' i => wtm_at "iter"
            case' sr => rfl
            case' ok => decide +kernel
            case' nn => rfl
            case' lx => decide +kernel
            case' zz => decide +kernel
            case' jj => rfl
            case' t1 => wtm_at "test"
            case' e1 => wtm_at "ev"
          case e2 => exact (List.map_map (f := fun j : Nat => decide ((n + i) % (2 + (j : Int)) = 0)) (g := PyData.bool)).symm
        case e0 => simp [smooth, List.any_map, Function.comp_def]
      case' s2 =>
        refine' sm_le (sm_one ?s3) ?l3
        case' s3 => wtm_at "st"
        case' l3 => wtm_at "le"
    refine' sm_end ?s4
    case' s4 => wtm_at "st"
/-! digits -/
def dcell (c P : Int) : Nat → Int
  | 0 => c
  | k + 1 => dcell c P k / P
def lawDigits (c P : Int) (n : Nat) : List Int := (List.range n).map fun j => dcell c P j % P
theorem lawDigits_succ (c P : Int) (n : Nat) : lawDigits c P (n + 1) = lawDigits c P n ++ [dcell c P n % P] := by
  unfold lawDigits; rw [List.range_succ, List.map_append]; rfl
theorem lawDigits_len (c P : Int) (n : Nat) : (lawDigits c P n).length = n := by simp [lawDigits]
theorem lawDigits_mem {c P : Int} {n : Nat} (hP : 0 < P) : ∀ x ∈ lawDigits c P n, 0 ≤ x ∧ x < P := fun x hx => by
  unfold lawDigits at hx
  rw [List.mem_map] at hx
  obtain ⟨j, _, rfl⟩ := hx
  exact ⟨Int.emod_nonneg _ (by omega), Int.emod_lt_of_pos _ hP⟩
inductive rDigits : List PyData → Res → Prop
  | mk {c P n : Int} (h : 0 < P) (h2 : P < 1073741824) (h0 : 0 ≤ n) (hn : n ≤ 1000) : rDigits [.int c, .int P, .int n] (.ok (.dat (tI (lawDigits c P n.toNat))))
local macro_rules | `(tactic| wtm_at "nm") => `(tactic| first
  | ((with_reducible show Ev _ _ (.Name "cell" _) _); exact nmF (by assumption) 0 (by rfl) rfl (by decide +kernel) (by decide +kernel) (by decide +kernel))
  | ((with_reducible show Ev _ _ (.Name "P" _) _); exact nmF (by assumption) 1 (by rfl) rfl (by decide +kernel) (by decide +kernel) (by decide +kernel))
  | ((with_reducible show Ev _ _ (.Name "size" _) _); exact nmF (by assumption) 2 (by rfl) rfl (by decide +kernel) (by decide +kernel) (by decide +kernel))
  | ((with_reducible show Ev _ _ (.Name "out" _) _); exact nmF (by assumption) 3 (by rfl) rfl (by decide +kernel) (by decide +kernel) (by decide +kernel))
  | ((with_reducible show Ev _ _ (.Name "k" _) _); exact nmF (by assumption) 4 (by rfl) rfl (by decide +kernel) (by decide +kernel) (by decide +kernel)))
local macro_rules | `(tactic| wtm_at "own") => `(tactic| first
  | ((with_reducible show EvS _ _ (.Name "cell" _) _ _); exact ownF (by assumption) 0 (by rfl) rfl (by decide +kernel) (by decide +kernel) (by decide +kernel))
  | ((with_reducible show EvS _ _ (.Name "P" _) _ _); exact ownF (by assumption) 1 (by rfl) rfl (by decide +kernel) (by decide +kernel) (by decide +kernel))
  | ((with_reducible show EvS _ _ (.Name "size" _) _ _); exact ownF (by assumption) 2 (by rfl) rfl (by decide +kernel) (by decide +kernel) (by decide +kernel))
  | ((with_reducible show EvS _ _ (.Name "out" _) _ _); exact ownF (by assumption) 3 (by rfl) rfl (by decide +kernel) (by decide +kernel) (by decide +kernel))
  | ((with_reducible show EvS _ _ (.Name "k" _) _ _); exact ownF (by assumption) 4 (by rfl) rfl (by decide +kernel) (by decide +kernel) (by decide +kernel)))
local macro_rules | `(tactic| wtm_at "ownl") => `(tactic| first
  | ((with_reducible show EvL _ _ (.Name "cell" _) _); exact ownlF (by assumption) 0 (by rfl) rfl (by decide +kernel) (by decide +kernel) (by decide +kernel))
  | ((with_reducible show EvL _ _ (.Name "P" _) _); exact ownlF (by assumption) 1 (by rfl) rfl (by decide +kernel) (by decide +kernel) (by decide +kernel))
  | ((with_reducible show EvL _ _ (.Name "size" _) _); exact ownlF (by assumption) 2 (by rfl) rfl (by decide +kernel) (by decide +kernel) (by decide +kernel))
  | ((with_reducible show EvL _ _ (.Name "out" _) _); exact ownlF (by assumption) 3 (by rfl) rfl (by decide +kernel) (by decide +kernel) (by decide +kernel))
  | ((with_reducible show EvL _ _ (.Name "k" _) _); exact ownlF (by assumption) 4 (by rfl) rfl (by decide +kernel) (by decide +kernel) (by decide +kernel)))
local macro_rules | `(tactic| wtm_at "set") => `(tactic| first
  | ((with_reducible show S1 _ _ (.Assign [.Name "cell" _] _ _) _); refine' setF ?st1 ?st2 0 ?st3 ?st4 ?ste ?st5; (case' st1 => assumption); (case' st2 => assumption); (case' st3 => rfl); (case' st4 => decide +kernel); (case' ste => wtm_at "ev"); (case' st5 => rfl))
  | ((with_reducible show S1 _ _ (.Assign [.Name "P" _] _ _) _); refine' setF ?st1 ?st2 1 ?st3 ?st4 ?ste ?st5; (case' st1 => assumption); (case' st2 => assumption); (case' st3 => rfl); (case' st4 => decide +kernel); (case' ste => wtm_at "ev"); (case' st5 => rfl))
  | ((with_reducible show S1 _ _ (.Assign [.Name "size" _] _ _) _); refine' setF ?st1 ?st2 2 ?st3 ?st4 ?ste ?st5; (case' st1 => assumption); (case' st2 => assumption); (case' st3 => rfl); (case' st4 => decide +kernel); (case' ste => wtm_at "ev"); (case' st5 => rfl))
  | ((with_reducible show S1 _ _ (.Assign [.Name "out" _] _ _) _); refine' setF ?st1 ?st2 3 ?st3 ?st4 ?ste ?st5; (case' st1 => assumption); (case' st2 => assumption); (case' st3 => rfl); (case' st4 => decide +kernel); (case' ste => wtm_at "ev"); (case' st5 => rfl))
  | ((with_reducible show S1 _ _ (.Assign [.Name "k" _] _ _) _); refine' setF ?st1 ?st2 4 ?st3 ?st4 ?ste ?st5; (case' st1 => assumption); (case' st2 => assumption); (case' st3 => rfl); (case' st4 => decide +kernel); (case' ste => wtm_at "ev"); (case' st5 => rfl)))
local macro_rules | `(tactic| wtm_at "app") => `(tactic| first
  | ((with_reducible show S1 _ _ (.Expr (.Call (.Attribute (.Name "cell" _) _ _) _ _ _) _) _); refine' appF ?ap1 0 ?ap2 ?ap3 ?ap4 ?ape ?aps ?ap5 ?ap6; (case' ap1 => assumption); (case' ap2 => rfl); (case' ap3 => rfl); (case' ap4 => decide +kernel); (case' ape => wtm_at "ev"); (case' aps => try (wtm_at "sz")); (case' ap5 => decide +kernel); (case' ap6 => decide +kernel))
  | ((with_reducible show S1 _ _ (.Expr (.Call (.Attribute (.Name "P" _) _ _) _ _ _) _) _); refine' appF ?ap1 1 ?ap2 ?ap3 ?ap4 ?ape ?aps ?ap5 ?ap6; (case' ap1 => assumption); (case' ap2 => rfl); (case' ap3 => rfl); (case' ap4 => decide +kernel); (case' ape => wtm_at "ev"); (case' aps => try (wtm_at "sz")); (case' ap5 => decide +kernel); (case' ap6 => decide +kernel))
  | ((with_reducible show S1 _ _ (.Expr (.Call (.Attribute (.Name "size" _) _ _) _ _ _) _) _); refine' appF ?ap1 2 ?ap2 ?ap3 ?ap4 ?ape ?aps ?ap5 ?ap6; (case' ap1 => assumption); (case' ap2 => rfl); (case' ap3 => rfl); (case' ap4 => decide +kernel); (case' ape => wtm_at "ev"); (case' aps => try (wtm_at "sz")); (case' ap5 => decide +kernel); (case' ap6 => decide +kernel))
  | ((with_reducible show S1 _ _ (.Expr (.Call (.Attribute (.Name "out" _) _ _) _ _ _) _) _); refine' appF ?ap1 3 ?ap2 ?ap3 ?ap4 ?ape ?aps ?ap5 ?ap6; (case' ap1 => assumption); (case' ap2 => rfl); (case' ap3 => rfl); (case' ap4 => decide +kernel); (case' ape => wtm_at "ev"); (case' aps => try (wtm_at "sz")); (case' ap5 => decide +kernel); (case' ap6 => decide +kernel))
  | ((with_reducible show S1 _ _ (.Expr (.Call (.Attribute (.Name "k" _) _ _) _ _ _) _) _); refine' appF ?ap1 4 ?ap2 ?ap3 ?ap4 ?ape ?aps ?ap5 ?ap6; (case' ap1 => assumption); (case' ap2 => rfl); (case' ap3 => rfl); (case' ap4 => decide +kernel); (case' ape => wtm_at "ev"); (case' aps => try (wtm_at "sz")); (case' ap5 => decide +kernel); (case' ap6 => decide +kernel)))
local macro_rules | `(tactic| wtm_at "put") => `(tactic| first
  | ((with_reducible show S1 _ _ (.Assign [.Subscript (.Name "cell" _) _ _] _ _) _); refine' putF ?pu1 0 ?pu2 ?pu3 ?pu4 ?pue ?pui ?pu5 ?pu6 ?pu7 ?pu8; (case' pu1 => assumption); (case' pu2 => rfl); (case' pu3 => rfl); (case' pu4 => decide +kernel); (case' pue => wtm_at "ev"); (case' pui => wtm_at "ev"); (case' pu5 => try (wtm_at "sd")); (case' pu6 => try (wtm_at "sd")); (case' pu7 => decide +kernel); (case' pu8 => decide +kernel))
  | ((with_reducible show S1 _ _ (.Assign [.Subscript (.Name "P" _) _ _] _ _) _); refine' putF ?pu1 1 ?pu2 ?pu3 ?pu4 ?pue ?pui ?pu5 ?pu6 ?pu7 ?pu8; (case' pu1 => assumption); (case' pu2 => rfl); (case' pu3 => rfl); (case' pu4 => decide +kernel); (case' pue => wtm_at "ev"); (case' pui => wtm_at "ev"); (case' pu5 => try (wtm_at "sd")); (case' pu6 => try (wtm_at "sd")); (case' pu7 => decide +kernel); (case' pu8 => decide +kernel))
  | ((with_reducible show S1 _ _ (.Assign [.Subscript (.Name "size" _) _ _] _ _) _); refine' putF ?pu1 2 ?pu2 ?pu3 ?pu4 ?pue ?pui ?pu5 ?pu6 ?pu7 ?pu8; (case' pu1 => assumption); (case' pu2 => rfl); (case' pu3 => rfl); (case' pu4 => decide +kernel); (case' pue => wtm_at "ev"); (case' pui => wtm_at "ev"); (case' pu5 => try (wtm_at "sd")); (case' pu6 => try (wtm_at "sd")); (case' pu7 => decide +kernel); (case' pu8 => decide +kernel))
  | ((with_reducible show S1 _ _ (.Assign [.Subscript (.Name "out" _) _ _] _ _) _); refine' putF ?pu1 3 ?pu2 ?pu3 ?pu4 ?pue ?pui ?pu5 ?pu6 ?pu7 ?pu8; (case' pu1 => assumption); (case' pu2 => rfl); (case' pu3 => rfl); (case' pu4 => decide +kernel); (case' pue => wtm_at "ev"); (case' pui => wtm_at "ev"); (case' pu5 => try (wtm_at "sd")); (case' pu6 => try (wtm_at "sd")); (case' pu7 => decide +kernel); (case' pu8 => decide +kernel))
  | ((with_reducible show S1 _ _ (.Assign [.Subscript (.Name "k" _) _ _] _ _) _); refine' putF ?pu1 4 ?pu2 ?pu3 ?pu4 ?pue ?pui ?pu5 ?pu6 ?pu7 ?pu8; (case' pu1 => assumption); (case' pu2 => rfl); (case' pu3 => rfl); (case' pu4 => decide +kernel); (case' pue => wtm_at "ev"); (case' pui => wtm_at "ev"); (case' pu5 => try (wtm_at "sd")); (case' pu6 => try (wtm_at "sd")); (case' pu7 => decide +kernel); (case' pu8 => decide +kernel)))
local macro_rules | `(tactic| wtm_at "reto") => `(tactic| first
  | ((with_reducible show S1 _ _ (.Return (some (.Name "cell" _)) _) _); exact retOF (by assumption) 0 (by rfl) rfl (by decide +kernel) (by decide +kernel) (by decide +kernel))
  | ((with_reducible show S1 _ _ (.Return (some (.Name "P" _)) _) _); exact retOF (by assumption) 1 (by rfl) rfl (by decide +kernel) (by decide +kernel) (by decide +kernel))
  | ((with_reducible show S1 _ _ (.Return (some (.Name "size" _)) _) _); exact retOF (by assumption) 2 (by rfl) rfl (by decide +kernel) (by decide +kernel) (by decide +kernel))
  | ((with_reducible show S1 _ _ (.Return (some (.Name "out" _)) _) _); exact retOF (by assumption) 3 (by rfl) rfl (by decide +kernel) (by decide +kernel) (by decide +kernel))
  | ((with_reducible show S1 _ _ (.Return (some (.Name "k" _)) _) _); exact retOF (by assumption) 4 (by rfl) rfl (by decide +kernel) (by decide +kernel) (by decide +kernel)))
local macro_rules | `(tactic| wtm_at "tgt") => `(tactic| first
  | ((with_reducible show PG _ (.Name "cell" _) _); exact tgF (by assumption) (by assumption) 0 (by rfl) (by decide +kernel))
  | ((with_reducible show PG _ (.Name "P" _) _); exact tgF (by assumption) (by assumption) 1 (by rfl) (by decide +kernel))
  | ((with_reducible show PG _ (.Name "size" _) _); exact tgF (by assumption) (by assumption) 2 (by rfl) (by decide +kernel))
  | ((with_reducible show PG _ (.Name "out" _) _); exact tgF (by assumption) (by assumption) 3 (by rfl) (by decide +kernel))
  | ((with_reducible show PG _ (.Name "k" _) _); exact tgF (by assumption) (by assumption) 4 (by rfl) (by decide +kernel)))
theorem ok_digits {f : Addr} {fd : FuncData} (F : Fun K "_law_digits" "_law_digits" s__law_digits f fd) (hm : mg "_law_digits" = some (.ref f)) (b : Binds K fd ["cell", "P", "size"] []) (mt : mg "tuple" = none) (mr : mg "range" = none) : Fn P w K mg base 1 "_law_digits" ["cell", "P", "size"] rDigits := by
  refine fnF F hm b sc__law_digits (fun ds r h => by cases h; rfl) fun X hX hT ds r h => ?_
  cases h with
  | @mk c p n h h2 h0 hn =>
    refine' sm_cons ?s1 ?_
    case' s1 => wtm_at "st"
    refine' sm_cons ?s2 ?_
    case' s2 =>
      refine' forR0 hX (n := n.toNat) 4 (fun i => [.dat (.int (dcell c p i)), .dat (.int p), .dat (.int n), .own (.lst ((lawDigits c p i).map .int)), .un]) ?i rfl ?g ?l (fun _ => rfl) (fun i hi => ?b)
      case' i => wtm_at "iter"
      case' g => wtm_at "tgt"
      case' l => wtm_at "le"
      have hl := lawDigits_len c p i
      refine' sm_cons ?s3 ?_
      case' s3 => wtm_at "st"
      refine' sm_le (sm_one ?s4) ?l4
      case' s4 => wtm_at "st"
      rw [lawDigits_succ, List.map_append]
      wtm_at "le"
    refine' sm_end ?s5
    case' s5 => wtm_at "st"
def isInt : PyData → Bool
  | .int _ => true
  | _ => false
inductive rWhole : List PyData → Res → Prop
  | mk {i : Int} : rWhole [.int i] (.ok (.dat (.bool true)))
end
end W

namespace W
open PySem PySem.Spec PyProof.Rows L2 LR
/-! the back of a number -/
/-- left, right, one, other -/
structure EuS where
  l : Int
  r : Int
  a : Int
  b : Int
def euS (P n : Int) : Nat → EuS
  | 0 => ⟨P, n % P, 0, 1⟩
  | i + 1 => let s := euS P n i; ⟨s.r, s.l - s.l / s.r * s.r, s.b, s.a - s.l / s.r * s.b⟩
theorem eu_ok {P n : Int} (hP : 0 < P) : ∀ i, (∀ j, j < i → 0 < (euS P n j).r) → 0 < (euS P n i).l ∧ 0 ≤ (euS P n i).r ∧ (euS P n i).r < (euS P n i).l ∧ (euS P n i).l ≤ P ∧ (euS P n i).r ≤ P - i ∧
    (∀ d, d ∣ (euS P n i).l → d ∣ (euS P n i).r → d ∣ P ∧ d ∣ n % P) ∧ P ∣ (euS P n i).l - (euS P n i).a * n ∧ P ∣ (euS P n i).r - (euS P n i).b * n
  | 0, _ => by
    show 0 < P ∧ 0 ≤ n % P ∧ n % P < P ∧ P ≤ P ∧ n % P ≤ P - 0 ∧ (∀ d, d ∣ P → d ∣ n % P → d ∣ P ∧ d ∣ n % P) ∧ P ∣ P - 0 * n ∧ P ∣ n % P - 1 * n
    have a := Int.emod_nonneg n (show P ≠ 0 by omega)
    have b := Int.emod_lt_of_pos n hP
    refine ⟨hP, a, b, Int.le_refl _, by omega, fun d h1 h2 => ⟨h1, h2⟩, by simp, ?_⟩
    rw [Int.one_mul]
    exact ⟨-(n / P), by have := Int.mul_ediv_add_emod n P; rw [Int.mul_neg]; omega⟩
  | i + 1, h => by
    obtain ⟨h1, h2, h3, h4, h5, h6, h7, h8⟩ := eu_ok hP i fun j hj => h j (by omega)
    have hr := h i (by omega)
    show 0 < (euS P n i).r ∧ 0 ≤ (euS P n i).l - (euS P n i).l / (euS P n i).r * (euS P n i).r ∧ (euS P n i).l - (euS P n i).l / (euS P n i).r * (euS P n i).r < (euS P n i).r ∧ (euS P n i).r ≤ P ∧ (euS P n i).l - (euS P n i).l / (euS P n i).r * (euS P n i).r ≤ P - ((i + 1 : Nat) : Int) ∧
      (∀ d, d ∣ (euS P n i).r → d ∣ (euS P n i).l - (euS P n i).l / (euS P n i).r * (euS P n i).r → d ∣ P ∧ d ∣ n % P) ∧ P ∣ (euS P n i).r - (euS P n i).b * n ∧ P ∣ ((euS P n i).l - (euS P n i).l / (euS P n i).r * (euS P n i).r) - ((euS P n i).a - (euS P n i).l / (euS P n i).r * (euS P n i).b) * n
    generalize euS P n i = s at *
    have e : s.l - s.l / s.r * s.r = s.l % s.r := by rw [Int.emod_def, Int.mul_comm]
    have a := Int.emod_nonneg s.l (show s.r ≠ 0 by omega)
    have b := Int.emod_lt_of_pos s.l hr
    refine ⟨hr, by omega, by omega, by omega, by omega, fun d d1 d2 => ?_, h8, ?_⟩
    · have : d ∣ s.l := by
        have z := Int.dvd_add d2 (Int.dvd_trans d1 (Int.dvd_mul_left (s.l / s.r) s.r))
        have e2 : s.l - s.l / s.r * s.r + s.l / s.r * s.r = s.l := by omega
        rwa [e2] at z
      exact h6 d this d1
    · have z := Int.dvd_sub h7 (Int.dvd_trans h8 (Int.dvd_mul_left (s.l / s.r) (s.r - s.b * n)))
      have e2 : s.l - s.a * n - s.l / s.r * (s.r - s.b * n) = s.l - s.l / s.r * s.r - (s.a - s.l / s.r * s.b) * n := by
        rw [Int.mul_sub, Int.sub_mul, Int.mul_assoc]
        omega
      rwa [e2] at z
/-- how many turns -/
theorem eu_stop {P n : Int} (hP : 0 < P) : ∃ k, (∀ i, i < k → decide ((euS P n i).r ≠ 0) = true) ∧ decide ((euS P n k).r ≠ 0) = false := by
  have key : ∃ m, decide ((euS P n m).r ≠ 0) = false := by
    refine Classical.byContradiction fun hn => ?_
    have hall : ∀ i, (∀ j, j < i → 0 < (euS P n j).r) ∧ (euS P n i).r ≠ 0 := fun i => by
      induction i with
      | zero => exact ⟨fun j hj => absurd hj (Nat.not_lt_zero _), fun z => hn ⟨0, by simp [z]⟩⟩
      | succ i ih =>
        refine ⟨fun j hj => ?_, fun z => hn ⟨i + 1, by simp [z]⟩⟩
        by_cases hji : j < i
        · exact ih.1 j hji
        · have : j = i := by omega
          subst this
          have := (eu_ok hP j ih.1).2.1
          have := ih.2
          omega
    have q := eu_ok hP (P.toNat + 1) (hall _).1
    omega
  obtain ⟨m, hm⟩ := key
  obtain ⟨k, _, a, b⟩ := first_not (fun i => decide ((euS P n i).r ≠ 0)) m hm
  exact ⟨k, a, b⟩
def backN (P n : Int) : Int := ((List.range P.toNat).find? fun x : Nat => decide ((x : Int) * n % P = 1)).getD 0
theorem back_uniq {P n x y : Int} (hP : 1 < P) (x0 : 0 ≤ x) (x1 : x < P) (y0 : 0 ≤ y) (y1 : y < P) (hx : x * n % P = 1) (hy : y * n % P = 1) : x = y := by
  have h1 : Em P (x * (y * n)) x := by
    have z : Em P (y * n) 1 := by show _ % P = 1 % P; rw [hy, Int.emod_eq_of_lt (by omega) hP]
    exact (Em.refl.mul z).trans (Em.of_eq (Int.mul_one _))
  have h2 : Em P (y * (x * n)) y := by
    have z : Em P (x * n) 1 := by show _ % P = 1 % P; rw [hx, Int.emod_eq_of_lt (by omega) hP]
    exact (Em.refl.mul z).trans (Em.of_eq (Int.mul_one _))
  have e : x * (y * n) = y * (x * n) := by rw [← Int.mul_assoc, ← Int.mul_assoc, Int.mul_comm x y]
  exact (h1.symm.trans ((Em.of_eq e).trans h2)).eq x0 x1 y0 y1
theorem backN_eq {P n x : Int} (hP : 1 < P) (x0 : 0 ≤ x) (x1 : x < P) (hx : x * n % P = 1) : backN P n = x := by
  unfold backN
  rcases find_first (fun z : Nat => decide ((z : Int) * n % P = 1)) (List.range P.toNat) with ⟨_, b⟩ | ⟨k, hk, _, b, c⟩
  · have z := b x.toNat (by simp; omega)
    rw [List.getElem_range, Int.toNat_of_nonneg x0] at z
    exact absurd hx (of_decide_eq_false z)
  · rw [c]
    rw [List.getElem_range] at b ⊢
    have hk2 : k < P.toNat := by simpa using hk
    show (k : Int) = x
    exact back_uniq hP (by omega) (by omega) x0 x1 (of_decide_eq_true b) hx
theorem eu_end {p n : Int} {k : Nat} (hp : Prm p) (hn : n % p ≠ 0) (h1 : ∀ i, i < k → decide ((euS p n i).r ≠ 0) = true) (h2 : decide ((euS p n k).r ≠ 0) = false) : 0 ≤ (euS p n k).a % p ∧ (euS p n k).a % p < p ∧ (euS p n k).a % p * n % p = 1 := by
  have p3 := hp.lo
  have p0 : 0 < p := by omega
  have pos : ∀ j, j < k → 0 < (euS p n j).r := fun j => by
    induction j using Nat.strongRecOn with
    | _ j ih =>
      intro hj
      have z := of_decide_eq_true (h1 j hj)
      have := (eu_ok p0 j fun i hi => ih i hi (by omega)).2.1
      omega
  obtain ⟨a, _, _, d, _, f, g, _⟩ := eu_ok p0 k pos
  have r0 : (euS p n k).r = 0 := by simpa using h2
  obtain ⟨d1, d2⟩ := f _ (Int.dvd_refl _) (by rw [r0]; exact Int.dvd_zero _)
  have l1 : (euS p n k).l = 1 := by
    refine Classical.byContradiction fun hne => ?_
    by_cases hl : (euS p n k).l = p
    · rw [hl] at d2
      have := Int.emod_nonneg n (show p ≠ 0 by omega)
      have := Int.emod_lt_of_pos n p0
      obtain ⟨q, hq⟩ := d2
      have q1 : q = 0 := by
        rcases Int.lt_or_le q 1 with z | z
        · rcases Int.lt_or_le q 0 with y | y
          · have : p * q ≤ p * (-1) := Int.mul_le_mul_of_nonneg_left (by omega) (by omega)
            omega
          · omega
        · have : p * 1 ≤ p * q := Int.mul_le_mul_of_nonneg_left z (by omega)
          omega
      rw [q1] at hq
      omega
    · exact hp.no _ (by omega) (by omega) (Int.emod_eq_zero_of_dvd d1)
  rw [l1] at g
  refine ⟨Int.emod_nonneg _ (by omega), Int.emod_lt_of_pos _ p0, ?_⟩
  have e1 : Em p ((euS p n k).a % p * n) ((euS p n k).a * n) := Em.mod.mul Em.refl
  have e2 : Em p ((euS p n k).a * n) 1 := by
    obtain ⟨q, hq⟩ := g
    show _ % p = _ % p
    have e : (euS p n k).a * n = 1 + p * (-q) := by rw [Int.mul_neg]; omega
    rw [e, Int.add_mul_emod_self_left]
  have e3 : (euS p n k).a % p * n % p = 1 % p := e1.trans e2
  rw [e3, Int.emod_eq_of_lt (by omega) (by omega)]
theorem back_ok {p n : Int} (hp : Prm p) (hn : n % p ≠ 0) : 0 ≤ backN p n ∧ backN p n < p ∧ backN p n * n % p = 1 := by
  have p3 := hp.lo
  obtain ⟨k, a, b⟩ := eu_stop (P := p) (n := n) (by omega)
  obtain ⟨c, d, e⟩ := eu_end hp hn a b
  rw [backN_eq (by omega) c d e]
  exact ⟨c, d, e⟩
section
variable {P : Program} {w : World} {K : PySem.W.Frag} {mg : Str → Option Value} {base : Heap}
inductive rBack : List PyData → Res → Prop
  | mk {p n : Int} (hp : Prm p) (hn : n % p ≠ 0) : rBack [.int p, .int n] (.ok (.dat (.int (backN p n))))
  | no {p n : Int} (hp : Prm p) (hn : n % p = 0) : rBack [.int p, .int n] (.ex "NoNumber")
local macro_rules | `(tactic| wtm_at "nm") => `(tactic| first
  | ((with_reducible show Ev _ _ (.Name "P" _) _); exact nmF (by assumption) 0 (by rfl) rfl (by decide +kernel) (by decide +kernel) (by decide +kernel))
  | ((with_reducible show Ev _ _ (.Name "n" _) _); exact nmF (by assumption) 1 (by rfl) rfl (by decide +kernel) (by decide +kernel) (by decide +kernel))
  | ((with_reducible show Ev _ _ (.Name "left" _) _); exact nmF (by assumption) 2 (by rfl) rfl (by decide +kernel) (by decide +kernel) (by decide +kernel))
  | ((with_reducible show Ev _ _ (.Name "right" _) _); exact nmF (by assumption) 3 (by rfl) rfl (by decide +kernel) (by decide +kernel) (by decide +kernel))
  | ((with_reducible show Ev _ _ (.Name "one" _) _); exact nmF (by assumption) 4 (by rfl) rfl (by decide +kernel) (by decide +kernel) (by decide +kernel))
  | ((with_reducible show Ev _ _ (.Name "other" _) _); exact nmF (by assumption) 5 (by rfl) rfl (by decide +kernel) (by decide +kernel) (by decide +kernel))
  | ((with_reducible show Ev _ _ (.Name "many" _) _); exact nmF (by assumption) 6 (by rfl) rfl (by decide +kernel) (by decide +kernel) (by decide +kernel)))
local macro_rules | `(tactic| wtm_at "own") => `(tactic| first
  | ((with_reducible show EvS _ _ (.Name "P" _) _ _); exact ownF (by assumption) 0 (by rfl) rfl (by decide +kernel) (by decide +kernel) (by decide +kernel))
  | ((with_reducible show EvS _ _ (.Name "n" _) _ _); exact ownF (by assumption) 1 (by rfl) rfl (by decide +kernel) (by decide +kernel) (by decide +kernel))
  | ((with_reducible show EvS _ _ (.Name "left" _) _ _); exact ownF (by assumption) 2 (by rfl) rfl (by decide +kernel) (by decide +kernel) (by decide +kernel))
  | ((with_reducible show EvS _ _ (.Name "right" _) _ _); exact ownF (by assumption) 3 (by rfl) rfl (by decide +kernel) (by decide +kernel) (by decide +kernel))
  | ((with_reducible show EvS _ _ (.Name "one" _) _ _); exact ownF (by assumption) 4 (by rfl) rfl (by decide +kernel) (by decide +kernel) (by decide +kernel))
  | ((with_reducible show EvS _ _ (.Name "other" _) _ _); exact ownF (by assumption) 5 (by rfl) rfl (by decide +kernel) (by decide +kernel) (by decide +kernel))
  | ((with_reducible show EvS _ _ (.Name "many" _) _ _); exact ownF (by assumption) 6 (by rfl) rfl (by decide +kernel) (by decide +kernel) (by decide +kernel)))
local macro_rules | `(tactic| wtm_at "ownl") => `(tactic| first
  | ((with_reducible show EvL _ _ (.Name "P" _) _); exact ownlF (by assumption) 0 (by rfl) rfl (by decide +kernel) (by decide +kernel) (by decide +kernel))
  | ((with_reducible show EvL _ _ (.Name "n" _) _); exact ownlF (by assumption) 1 (by rfl) rfl (by decide +kernel) (by decide +kernel) (by decide +kernel))
  | ((with_reducible show EvL _ _ (.Name "left" _) _); exact ownlF (by assumption) 2 (by rfl) rfl (by decide +kernel) (by decide +kernel) (by decide +kernel))
  | ((with_reducible show EvL _ _ (.Name "right" _) _); exact ownlF (by assumption) 3 (by rfl) rfl (by decide +kernel) (by decide +kernel) (by decide +kernel))
  | ((with_reducible show EvL _ _ (.Name "one" _) _); exact ownlF (by assumption) 4 (by rfl) rfl (by decide +kernel) (by decide +kernel) (by decide +kernel))
  | ((with_reducible show EvL _ _ (.Name "other" _) _); exact ownlF (by assumption) 5 (by rfl) rfl (by decide +kernel) (by decide +kernel) (by decide +kernel))
  | ((with_reducible show EvL _ _ (.Name "many" _) _); exact ownlF (by assumption) 6 (by rfl) rfl (by decide +kernel) (by decide +kernel) (by decide +kernel)))
local macro_rules | `(tactic| wtm_at "set") => `(tactic| first
  | ((with_reducible show S1 _ _ (.Assign [.Name "P" _] _ _) _); refine' setF ?st1 ?st2 0 ?st3 ?st4 ?ste ?st5; (case' st1 => assumption); (case' st2 => assumption); (case' st3 => rfl); (case' st4 => decide +kernel); (case' ste => wtm_at "ev"); (case' st5 => rfl))
  | ((with_reducible show S1 _ _ (.Assign [.Name "n" _] _ _) _); refine' setF ?st1 ?st2 1 ?st3 ?st4 ?ste ?st5; (case' st1 => assumption); (case' st2 => assumption); (case' st3 => rfl); (case' st4 => decide +kernel); (case' ste => wtm_at "ev"); (case' st5 => rfl))
  | ((with_reducible show S1 _ _ (.Assign [.Name "left" _] _ _) _); refine' setF ?st1 ?st2 2 ?st3 ?st4 ?ste ?st5; (case' st1 => assumption); (case' st2 => assumption); (case' st3 => rfl); (case' st4 => decide +kernel); (case' ste => wtm_at "ev"); (case' st5 => rfl))
  | ((with_reducible show S1 _ _ (.Assign [.Name "right" _] _ _) _); refine' setF ?st1 ?st2 3 ?st3 ?st4 ?ste ?st5; (case' st1 => assumption); (case' st2 => assumption); (case' st3 => rfl); (case' st4 => decide +kernel); (case' ste => wtm_at "ev"); (case' st5 => rfl))
  | ((with_reducible show S1 _ _ (.Assign [.Name "one" _] _ _) _); refine' setF ?st1 ?st2 4 ?st3 ?st4 ?ste ?st5; (case' st1 => assumption); (case' st2 => assumption); (case' st3 => rfl); (case' st4 => decide +kernel); (case' ste => wtm_at "ev"); (case' st5 => rfl))
  | ((with_reducible show S1 _ _ (.Assign [.Name "other" _] _ _) _); refine' setF ?st1 ?st2 5 ?st3 ?st4 ?ste ?st5; (case' st1 => assumption); (case' st2 => assumption); (case' st3 => rfl); (case' st4 => decide +kernel); (case' ste => wtm_at "ev"); (case' st5 => rfl))
  | ((with_reducible show S1 _ _ (.Assign [.Name "many" _] _ _) _); refine' setF ?st1 ?st2 6 ?st3 ?st4 ?ste ?st5; (case' st1 => assumption); (case' st2 => assumption); (case' st3 => rfl); (case' st4 => decide +kernel); (case' ste => wtm_at "ev"); (case' st5 => rfl)))
local macro_rules | `(tactic| wtm_at "app") => `(tactic| first
  | ((with_reducible show S1 _ _ (.Expr (.Call (.Attribute (.Name "P" _) _ _) _ _ _) _) _); refine' appF ?ap1 0 ?ap2 ?ap3 ?ap4 ?ape ?aps ?ap5 ?ap6; (case' ap1 => assumption); (case' ap2 => rfl); (case' ap3 => rfl); (case' ap4 => decide +kernel); (case' ape => wtm_at "ev"); (case' aps => try (wtm_at "sz")); (case' ap5 => decide +kernel); (case' ap6 => decide +kernel))
  | ((with_reducible show S1 _ _ (.Expr (.Call (.Attribute (.Name "n" _) _ _) _ _ _) _) _); refine' appF ?ap1 1 ?ap2 ?ap3 ?ap4 ?ape ?aps ?ap5 ?ap6; (case' ap1 => assumption); (case' ap2 => rfl); (case' ap3 => rfl); (case' ap4 => decide +kernel); (case' ape => wtm_at "ev"); (case' aps => try (wtm_at "sz")); (case' ap5 => decide +kernel); (case' ap6 => decide +kernel))
  | ((with_reducible show S1 _ _ (.Expr (.Call (.Attribute (.Name "left" _) _ _) _ _ _) _) _); refine' appF ?ap1 2 ?ap2 ?ap3 ?ap4 ?ape ?aps ?ap5 ?ap6; (case' ap1 => assumption); (case' ap2 => rfl); (case' ap3 => rfl); (case' ap4 => decide +kernel); (case' ape => wtm_at "ev"); (case' aps => try (wtm_at "sz")); (case' ap5 => decide +kernel); (case' ap6 => decide +kernel))
  | ((with_reducible show S1 _ _ (.Expr (.Call (.Attribute (.Name "right" _) _ _) _ _ _) _) _); refine' appF ?ap1 3 ?ap2 ?ap3 ?ap4 ?ape ?aps ?ap5 ?ap6; (case' ap1 => assumption); (case' ap2 => rfl); (case' ap3 => rfl); (case' ap4 => decide +kernel); (case' ape => wtm_at "ev"); (case' aps => try (wtm_at "sz")); (case' ap5 => decide +kernel); (case' ap6 => decide +kernel))
  | ((with_reducible show S1 _ _ (.Expr (.Call (.Attribute (.Name "one" _) _ _) _ _ _) _) _); refine' appF ?ap1 4 ?ap2 ?ap3 ?ap4 ?ape ?aps ?ap5 ?ap6; (case' ap1 => assumption); (case' ap2 => rfl); (case' ap3 => rfl); (case' ap4 => decide +kernel); (case' ape => wtm_at "ev"); (case' aps => try (wtm_at "sz")); (case' ap5 => decide +kernel); (case' ap6 => decide +kernel))
  | ((with_reducible show S1 _ _ (.Expr (.Call (.Attribute (.Name "other" _) _ _) _ _ _) _) _); refine' appF ?ap1 5 ?ap2 ?ap3 ?ap4 ?ape ?aps ?ap5 ?ap6; (case' ap1 => assumption); (case' ap2 => rfl); (case' ap3 => rfl); (case' ap4 => decide +kernel); (case' ape => wtm_at "ev"); (case' aps => try (wtm_at "sz")); (case' ap5 => decide +kernel); (case' ap6 => decide +kernel))
  | ((with_reducible show S1 _ _ (.Expr (.Call (.Attribute (.Name "many" _) _ _) _ _ _) _) _); refine' appF ?ap1 6 ?ap2 ?ap3 ?ap4 ?ape ?aps ?ap5 ?ap6; (case' ap1 => assumption); (case' ap2 => rfl); (case' ap3 => rfl); (case' ap4 => decide +kernel); (case' ape => wtm_at "ev"); (case' aps => try (wtm_at "sz")); (case' ap5 => decide +kernel); (case' ap6 => decide +kernel)))
local macro_rules | `(tactic| wtm_at "put") => `(tactic| first
  | ((with_reducible show S1 _ _ (.Assign [.Subscript (.Name "P" _) _ _] _ _) _); refine' putF ?pu1 0 ?pu2 ?pu3 ?pu4 ?pue ?pui ?pu5 ?pu6 ?pu7 ?pu8; (case' pu1 => assumption); (case' pu2 => rfl); (case' pu3 => rfl); (case' pu4 => decide +kernel); (case' pue => wtm_at "ev"); (case' pui => wtm_at "ev"); (case' pu5 => try (wtm_at "sd")); (case' pu6 => try (wtm_at "sd")); (case' pu7 => decide +kernel); (case' pu8 => decide +kernel))
  | ((with_reducible show S1 _ _ (.Assign [.Subscript (.Name "n" _) _ _] _ _) _); refine' putF ?pu1 1 ?pu2 ?pu3 ?pu4 ?pue ?pui ?pu5 ?pu6 ?pu7 ?pu8; (case' pu1 => assumption); (case' pu2 => rfl); (case' pu3 => rfl); (case' pu4 => decide +kernel); (case' pue => wtm_at "ev"); (case' pui => wtm_at "ev"); (case' pu5 => try (wtm_at "sd")); (case' pu6 => try (wtm_at "sd")); (case' pu7 => decide +kernel); (case' pu8 => decide +kernel))
  | ((with_reducible show S1 _ _ (.Assign [.Subscript (.Name "left" _) _ _] _ _) _); refine' putF ?pu1 2 ?pu2 ?pu3 ?pu4 ?pue ?pui ?pu5 ?pu6 ?pu7 ?pu8; (case' pu1 => assumption); (case' pu2 => rfl); (case' pu3 => rfl); (case' pu4 => decide +kernel); (case' pue => wtm_at "ev"); (case' pui => wtm_at "ev"); (case' pu5 => try (wtm_at "sd")); (case' pu6 => try (wtm_at "sd")); (case' pu7 => decide +kernel); (case' pu8 => decide +kernel))
  | ((with_reducible show S1 _ _ (.Assign [.Subscript (.Name "right" _) _ _] _ _) _); refine' putF ?pu1 3 ?pu2 ?pu3 ?pu4 ?pue ?pui ?pu5 ?pu6 ?pu7 ?pu8; (case' pu1 => assumption); (case' pu2 => rfl); (case' pu3 => rfl); (case' pu4 => decide +kernel); (case' pue => wtm_at "ev"); (case' pui => wtm_at "ev"); (case' pu5 => try (wtm_at "sd")); (case' pu6 => try (wtm_at "sd")); (case' pu7 => decide +kernel); (case' pu8 => decide +kernel))
  | ((with_reducible show S1 _ _ (.Assign [.Subscript (.Name "one" _) _ _] _ _) _); refine' putF ?pu1 4 ?pu2 ?pu3 ?pu4 ?pue ?pui ?pu5 ?pu6 ?pu7 ?pu8; (case' pu1 => assumption); (case' pu2 => rfl); (case' pu3 => rfl); (case' pu4 => decide +kernel); (case' pue => wtm_at "ev"); (case' pui => wtm_at "ev"); (case' pu5 => try (wtm_at "sd")); (case' pu6 => try (wtm_at "sd")); (case' pu7 => decide +kernel); (case' pu8 => decide +kernel))
  | ((with_reducible show S1 _ _ (.Assign [.Subscript (.Name "other" _) _ _] _ _) _); refine' putF ?pu1 5 ?pu2 ?pu3 ?pu4 ?pue ?pui ?pu5 ?pu6 ?pu7 ?pu8; (case' pu1 => assumption); (case' pu2 => rfl); (case' pu3 => rfl); (case' pu4 => decide +kernel); (case' pue => wtm_at "ev"); (case' pui => wtm_at "ev"); (case' pu5 => try (wtm_at "sd")); (case' pu6 => try (wtm_at "sd")); (case' pu7 => decide +kernel); (case' pu8 => decide +kernel))
  | ((with_reducible show S1 _ _ (.Assign [.Subscript (.Name "many" _) _ _] _ _) _); refine' putF ?pu1 6 ?pu2 ?pu3 ?pu4 ?pue ?pui ?pu5 ?pu6 ?pu7 ?pu8; (case' pu1 => assumption); (case' pu2 => rfl); (case' pu3 => rfl); (case' pu4 => decide +kernel); (case' pue => wtm_at "ev"); (case' pui => wtm_at "ev"); (case' pu5 => try (wtm_at "sd")); (case' pu6 => try (wtm_at "sd")); (case' pu7 => decide +kernel); (case' pu8 => decide +kernel)))
local macro_rules | `(tactic| wtm_at "reto") => `(tactic| first
  | ((with_reducible show S1 _ _ (.Return (some (.Name "P" _)) _) _); exact retOF (by assumption) 0 (by rfl) rfl (by decide +kernel) (by decide +kernel) (by decide +kernel))
  | ((with_reducible show S1 _ _ (.Return (some (.Name "n" _)) _) _); exact retOF (by assumption) 1 (by rfl) rfl (by decide +kernel) (by decide +kernel) (by decide +kernel))
  | ((with_reducible show S1 _ _ (.Return (some (.Name "left" _)) _) _); exact retOF (by assumption) 2 (by rfl) rfl (by decide +kernel) (by decide +kernel) (by decide +kernel))
  | ((with_reducible show S1 _ _ (.Return (some (.Name "right" _)) _) _); exact retOF (by assumption) 3 (by rfl) rfl (by decide +kernel) (by decide +kernel) (by decide +kernel))
  | ((with_reducible show S1 _ _ (.Return (some (.Name "one" _)) _) _); exact retOF (by assumption) 4 (by rfl) rfl (by decide +kernel) (by decide +kernel) (by decide +kernel))
  | ((with_reducible show S1 _ _ (.Return (some (.Name "other" _)) _) _); exact retOF (by assumption) 5 (by rfl) rfl (by decide +kernel) (by decide +kernel) (by decide +kernel))
  | ((with_reducible show S1 _ _ (.Return (some (.Name "many" _)) _) _); exact retOF (by assumption) 6 (by rfl) rfl (by decide +kernel) (by decide +kernel) (by decide +kernel)))
local macro_rules | `(tactic| wtm_at "tgt") => `(tactic| first
  | ((with_reducible show PG _ (.Name "P" _) _); exact tgF (by assumption) (by assumption) 0 (by rfl) (by decide +kernel))
  | ((with_reducible show PG _ (.Name "n" _) _); exact tgF (by assumption) (by assumption) 1 (by rfl) (by decide +kernel))
  | ((with_reducible show PG _ (.Name "left" _) _); exact tgF (by assumption) (by assumption) 2 (by rfl) (by decide +kernel))
  | ((with_reducible show PG _ (.Name "right" _) _); exact tgF (by assumption) (by assumption) 3 (by rfl) (by decide +kernel))
  | ((with_reducible show PG _ (.Name "one" _) _); exact tgF (by assumption) (by assumption) 4 (by rfl) (by decide +kernel))
  | ((with_reducible show PG _ (.Name "other" _) _); exact tgF (by assumption) (by assumption) 5 (by rfl) (by decide +kernel))
  | ((with_reducible show PG _ (.Name "many" _) _); exact tgF (by assumption) (by assumption) 6 (by rfl) (by decide +kernel)))
theorem ok_back {f : Addr} {fd : FuncData} (F : Fun K "back" "back" s_back f fd) (hm : mg "back" = some (.ref f)) (b : Binds K fd ["P", "n"] []) (xN : XC K mg "NoNumber") (Gon : Fn P w K mg base 1 "on" ["P", "n"] rOn) : Fn P w K mg base 2 "back" ["P", "n"] rBack := by
  refine fnF F hm b sc_back (fun ds r h => by cases h <;> rfl) fun X hX hT ds r h => ?_
  cases h with
  | @no p n hp hn =>
    have p3 := hp.lo
    have p0 : 0 < p := by omega
    refine' ⟨[.dat (.int p), .dat (.int n), .dat (.int p), .dat (.int (n % p)), .un, .un, .un], ?_⟩
    refine' sm_cons ?ns1 ?_
    case' ns1 => wtm_at "st"
    refine' sm_cons ?ns2 ?_
    case' ns2 => wtm_at "st"
    refine' sm_end (s1_if (v := true) ?nc3 (fun _ => sm_end ?nr3) (fun h => nomatch h))
    case' nc3 =>
      refine' et_eq ?nc4 ?nc5
      case' nc4 => wtm_at "test"
      case nc5 => exact decide_eq_true hn
    case' nr3 =>
      refine' raiseF hX hT xN ?ng1 ?ng2
      case' ng1 => decide +kernel
      case' ng2 => decide +kernel
  | @mk p n hp hn =>
    have p3 := hp.lo
    have p0 : 0 < p := by omega
    have hi := hp.hi
    refine' sm_cons ?s1 ?_
    case' s1 => wtm_at "st"
    refine' sm_cons ?s2 ?_
    case' s2 => wtm_at "st"
    refine' sm_cons (s1_if (v := false) ?c3 (fun h => nomatch h) fun _ => sm_nil) ?_
    case' c3 =>
      refine' et_eq ?c4 ?c5
      case' c4 => wtm_at "test"
      case c5 => exact decide_eq_false hn
    refine' sm_cons ?s6 ?_
    case' s6 => wtm_at "st"
    refine' sm_cons ?s7 ?_
    case' s7 => wtm_at "st"
    obtain ⟨m, hm1, hm2⟩ := eu_stop (P := p) (n := n) p0
    obtain ⟨q1, q2, q3⟩ := eu_end hp hn hm1 hm2
    have pos : ∀ j, j < m → 0 < (euS p n j).r := fun j => by
      induction j using Nat.strongRecOn with
      | _ j ih =>
        intro hj
        have z := of_decide_eq_true (hm1 j hj)
        have := (eu_ok p0 j fun i hi => ih i hi (by omega)).2.1
        omega
    refine' sm_cons ?s8 ?_
    case' s8 =>
      refine' whileV hX (fun i => [.dat (.int p), .dat (.int n), .dat (.int (euS p n i).l), .dat (.int (euS p n i).r), .dat (.int (euS p n i).a), .dat (.int (euS p n i).b), .un]) m (fun i => decide ((euS p n i).r ≠ 0)) ?l9 (fun i _ => ?t9) hm1 hm2 fun i hi => ?b9
      case' l9 => wtm_at "le"
      case' t9 =>
        refine' et_eq ?t10 ?t11
        case' t10 => wtm_at "test"
        case t11 => simp
      have hr := pos i hi
      obtain ⟨a, b, c, d, _, _, _, _⟩ := eu_ok p0 i fun j hj => pos j (by omega)
      have es : euS p n (i + 1) = ⟨(euS p n i).r, (euS p n i).l - (euS p n i).l / (euS p n i).r * (euS p n i).r, (euS p n i).b, (euS p n i).a - (euS p n i).l / (euS p n i).r * (euS p n i).b⟩ := rfl
      rw [es]
      generalize euS p n i = s at *
      have dv0 : 0 ≤ s.l / s.r := Int.ediv_nonneg (by omega) (by omega)
      have dv1 : s.l / s.r ≤ s.l := Int.ediv_le_self _ (by omega)
      have r30 : s.r < 1073741824 := by omega
      have cm1 : CMul (s.l / s.r) s.r := .inl (by omega)
      have cm2 : CMul (s.l / s.r) s.b := .inl (by omega)
      refine' sm_cons ?s12 ?_
      case' s12 => wtm_at "st"
      generalize hq : s.l / s.r = q at *
      refine' sm_cons ?s13 ?_
      case' s13 =>
        refine' parF hX (i := 2) (j := 3) (d1 := .int s.r) (d2 := .int (s.l - q * s.r)) ?p1 ?p2 (by decide) ?p3 ?p4 ?p5 ?p6 ?p7 ?p8 ?p9 ?pa ?pb ?pc ?pd ?pe
        case' p1 => rfl
        case' p2 => rfl
        case' p3 => decide +kernel
        case' p4 => decide +kernel
        case' p5 => wtm_at "args"
        case' p6 => rfl
        case' p7 => rfl
        case' p8 => decide +kernel
        case' p9 => decide +kernel
        case' pa => rfl
        case' pb => intro _ _ z; cases z
        case' pc => intro _ _ z; cases z
        case' pd => rfl
        case' pe => rfl
      refine' sm_le (sm_one ?s14) ?l14
      case' s14 =>
        refine' parF hX (i := 4) (j := 5) (d1 := .int s.b) (d2 := .int (s.a - q * s.b)) ?p11 ?p12 (by decide) ?p13 ?p14 ?p15 ?p16 ?p17 ?p18 ?p19 ?pa1 ?pb1 ?pc1 ?pd1 ?pe1
        case' p11 => rfl
        case' p12 => rfl
        case' p13 => decide +kernel
        case' p14 => decide +kernel
        case' p15 => wtm_at "args"
        case' p16 => rfl
        case' p17 => rfl
        case' p18 => decide +kernel
        case' p19 => decide +kernel
        case' pa1 => rfl
        case' pb1 => intro _ _ z; cases z
        case' pc1 => intro _ _ z; cases z
        case' pd1 => rfl
        case' pe1 => rfl
      case' l14 => wtm_at "le"
    refine' sm_end (s1_retE ?e9 ?e10)
    case' e9 => wtm_at "ev"
    case e10 => rw [backN_eq (by omega) q1 q2 q3]
end
end W

namespace W
/-! rows of numbers -/
def lead (row : List Int) : Nat := row.findIdx fun x => decide (x ≠ 0)
def lessV (P : Int) (row other : List Int) (c : Int) : List Int := (row.zip other).map fun z => (z.1 - c * z.2) % P
def restBy (P : Int) (F : List (List Int)) (row : List Int) : List Int := F.foldl (fun r one => lessV P r one (r.getD (lead one) 0)) row
def newRow (P : Int) (r : List Int) : List Int := r.map fun x => (backN P (r.getD (lead r) 0) * x) % P
def addRow (P : Int) (F : List (List Int)) (r : List Int) : List (List Int) :=
  ((F.map fun one => lessV P one (newRow P r) (one.getD (lead r) 0)) ++ [newRow P r]).mergeSort fun a b => decide ((lead a : Int) ≤ (lead b : Int))
def withRow (P : Int) (F : List (List Int)) (row : List Int) : List (List Int) := if lead (restBy P F row) = (restBy P F row).length then F else addRow P F (restBy P F row)
def stepsForm (P : Int) (rows : List (List Int)) : List (List Int) := rows.foldl (withRow P) []
theorem lead_cases (row : List Int) : ((∀ i, i < row.length → row.getD i 0 = 0) ∧ lead row = row.length) ∨ (lead row < row.length ∧ (∀ i, i < lead row → row.getD i 0 = 0) ∧ row.getD (lead row) 0 ≠ 0) := by
  by_cases h : lead row < row.length
  · refine .inr ⟨h, fun i hi => ?_, ?_⟩
    · have := List.not_of_lt_findIdx (p := fun x : Int => decide (x ≠ 0)) (xs := row) hi
      rw [List.getD_eq_getElem?_getD, List.getElem?_eq_getElem (by omega)]
      simpa using this
    · have := List.findIdx_getElem (p := fun x : Int => decide (x ≠ 0)) (xs := row) (w := h)
      rw [List.getD_eq_getElem?_getD, List.getElem?_eq_getElem h]
      exact of_decide_eq_true this
  · have h2 : lead row ≤ row.length := List.findIdx_le_length
    have e : lead row = row.length := by omega
    refine .inl ⟨fun i hi => ?_, e⟩
    have := List.not_of_lt_findIdx (p := fun x : Int => decide (x ≠ 0)) (xs := row) (i := i) (by show i < lead row; omega)
    rw [List.getD_eq_getElem?_getD, List.getElem?_eq_getElem hi]
    simpa using this
theorem lead_le (row : List Int) : lead row ≤ row.length := List.findIdx_le_length
theorem lessV_len {P : Int} {r o : List Int} {c : Int} (h : r.length = o.length) : (lessV P r o c).length = r.length := by simp [lessV, h]
theorem lessV_get {P : Int} {r o : List Int} {c : Int} (h : r.length = o.length) {j : Nat} (hj : j < r.length) : (lessV P r o c).getD j 0 = (r.getD j 0 - c * o.getD j 0) % P := by
  unfold lessV
  rw [List.getD_eq_getElem?_getD, List.getD_eq_getElem?_getD, List.getD_eq_getElem?_getD, List.getElem?_map, List.getElem?_eq_getElem (by simp; omega), List.getElem?_eq_getElem hj, List.getElem?_eq_getElem (by omega), List.getElem_zip]
  rfl
theorem lessV_on {P : Int} (p0 : 0 < P) {r o : List Int} {c : Int} : OnW P (lessV P r o c) := fun y hy => by
  unfold lessV at hy
  obtain ⟨z, _, rfl⟩ := List.mem_map.mp hy
  exact ⟨Int.emod_nonneg _ (by omega), Int.emod_lt_of_pos _ p0⟩
/-- rows of a width on the wheel -/
def RowsOn (P : Int) (wd : Nat) (F : List (List Int)) : Prop := ∀ r ∈ F, r.length = wd ∧ OnW P r
theorem rows_nil {P : Int} {wd : Nat} : RowsOn P wd [] := fun _ h => nomatch h
theorem rows_append {P : Int} {wd : Nat} {F G : List (List Int)} (h : RowsOn P wd F) (h2 : RowsOn P wd G) : RowsOn P wd (F ++ G) := fun r hr => by
  rcases List.mem_append.mp hr with z | z
  · exact h r z
  · exact h2 r z
theorem rows_one {P : Int} {wd : Nat} {r : List Int} (h : r.length = wd) (h2 : OnW P r) : RowsOn P wd [r] := fun q hq => by rw [List.mem_singleton.mp hq]; exact ⟨h, h2⟩
section
variable {P : Int} {wd : Nat} (p0 : 0 < P)
include p0
theorem rest_on : ∀ {F : List (List Int)} {row : List Int}, RowsOn P wd F → row.length = wd → OnW P row → (restBy P F row).length = wd ∧ OnW P (restBy P F row)
  | [], row, _, h, h2 => ⟨h, h2⟩
  | one :: F, row, hF, h, h2 => by
    show (restBy P F (lessV P row one (row.getD (lead one) 0))).length = wd ∧ OnW P (restBy P F (lessV P row one (row.getD (lead one) 0)))
    have h1 := (hF one List.mem_cons_self).1
    exact rest_on (fun r hr => hF r (List.mem_cons_of_mem _ hr)) (by rw [lessV_len (by omega)]; exact h) (lessV_on p0)
theorem newRow_on {r : List Int} : (newRow P r).length = r.length ∧ OnW P (newRow P r) := by
  refine ⟨by simp [newRow], fun y hy => ?_⟩
  obtain ⟨z, _, rfl⟩ := List.mem_map.mp hy
  exact ⟨Int.emod_nonneg _ (by omega), Int.emod_lt_of_pos _ p0⟩
theorem addRow_on {F : List (List Int)} {r : List Int} (hF : RowsOn P wd F) (h : r.length = wd) : RowsOn P wd (addRow P F r) := by
  have hn := newRow_on p0 (r := r)
  intro q hq
  rw [addRow, List.mem_mergeSort] at hq
  rcases List.mem_append.mp hq with z | z
  · obtain ⟨one, h1, rfl⟩ := List.mem_map.mp z
    obtain ⟨a, b⟩ := hF one h1
    exact ⟨by rw [lessV_len (by omega)]; exact a, lessV_on p0⟩
  · rw [List.mem_singleton.mp z]
    exact ⟨by omega, hn.2⟩
theorem withRow_on {F : List (List Int)} {row : List Int} (hF : RowsOn P wd F) (h : row.length = wd) (h2 : OnW P row) : RowsOn P wd (withRow P F row) := by
  unfold withRow
  split
  · exact hF
  · exact addRow_on p0 hF (rest_on p0 hF h h2).1
end
theorem withRow_len {P : Int} {F : List (List Int)} {row : List Int} : (withRow P F row).length ≤ F.length + 1 := by
  unfold withRow
  split
  · omega
  · unfold addRow
    rw [List.length_mergeSort, List.length_append, List.length_map, List.length_singleton]
    omega
theorem steps_snoc {P : Int} {rows : List (List Int)} {k : Nat} (hk : k < rows.length) : stepsForm P (rows.take (k + 1)) = withRow P (stepsForm P (rows.take k)) rows[k] := by
  unfold stepsForm
  rw [List.take_add_one, List.getElem?_eq_getElem hk, List.foldl_append]
  rfl
theorem steps_all {P : Int} (p0 : 0 < P) {wd : Nat} {rows : List (List Int)} (h : RowsOn P wd rows) : ∀ k, k ≤ rows.length → RowsOn P wd (stepsForm P (rows.take k)) ∧ (stepsForm P (rows.take k)).length ≤ k
  | 0, _ => ⟨by rw [List.take_zero]; exact rows_nil, by rw [List.take_zero]; exact Nat.le_refl _⟩
  | k + 1, hk => by
    obtain ⟨a, b⟩ := steps_all p0 h k (by omega)
    rw [steps_snoc (by omega)]
    obtain ⟨c, d⟩ := h _ (List.getElem_mem (show k < rows.length by omega))
    exact ⟨withRow_on p0 a c d, Nat.le_trans withRow_len (by omega)⟩
end W

namespace W
open PySem PySem.Spec PyProof.Rows L2 LR
abbrev lT (F : List (List Int)) : PyData := .list (F.map tI)
def unI : PyData → Int
  | .int i => i
  | _ => 0
def unT : PyData → List Int
  | .tuple xs => xs.map unI
  | _ => []
theorem unT_t (r : List Int) : unT (tI r) = r := by
  show (r.map PyData.int).map unI = r
  rw [List.map_map]
  exact List.map_id r
section
variable {P : Program} {w : World} {K : PySem.W.Frag} {mg : Str → Option Value} {base : Heap}
inductive rLead : List PyData → Res → Prop
  | mk {r : List Int} (h : r.length ≤ 1000) : rLead [tI r] (.ok (.dat (.int (lead r))))
local macro_rules | `(tactic| wtm_at "nm") => `(tactic| first
  | ((with_reducible show Ev _ _ (.Name "row" _) _); exact nmF (by assumption) 0 (by rfl) rfl (by decide +kernel) (by decide +kernel) (by decide +kernel))
  | ((with_reducible show Ev _ _ (.Name "at" _) _); exact nmF (by assumption) 1 (by rfl) rfl (by decide +kernel) (by decide +kernel) (by decide +kernel)))
local macro_rules | `(tactic| wtm_at "own") => `(tactic| first
  | ((with_reducible show EvS _ _ (.Name "row" _) _ _); exact ownF (by assumption) 0 (by rfl) rfl (by decide +kernel) (by decide +kernel) (by decide +kernel))
  | ((with_reducible show EvS _ _ (.Name "at" _) _ _); exact ownF (by assumption) 1 (by rfl) rfl (by decide +kernel) (by decide +kernel) (by decide +kernel)))
local macro_rules | `(tactic| wtm_at "ownl") => `(tactic| first
  | ((with_reducible show EvL _ _ (.Name "row" _) _); exact ownlF (by assumption) 0 (by rfl) rfl (by decide +kernel) (by decide +kernel) (by decide +kernel))
  | ((with_reducible show EvL _ _ (.Name "at" _) _); exact ownlF (by assumption) 1 (by rfl) rfl (by decide +kernel) (by decide +kernel) (by decide +kernel)))
local macro_rules | `(tactic| wtm_at "set") => `(tactic| first
  | ((with_reducible show S1 _ _ (.Assign [.Name "row" _] _ _) _); refine' setF ?st1 ?st2 0 ?st3 ?st4 ?ste ?st5; (case' st1 => assumption); (case' st2 => assumption); (case' st3 => rfl); (case' st4 => decide +kernel); (case' ste => wtm_at "ev"); (case' st5 => rfl))
  | ((with_reducible show S1 _ _ (.Assign [.Name "at" _] _ _) _); refine' setF ?st1 ?st2 1 ?st3 ?st4 ?ste ?st5; (case' st1 => assumption); (case' st2 => assumption); (case' st3 => rfl); (case' st4 => decide +kernel); (case' ste => wtm_at "ev"); (case' st5 => rfl)))
local macro_rules | `(tactic| wtm_at "app") => `(tactic| first
  | ((with_reducible show S1 _ _ (.Expr (.Call (.Attribute (.Name "row" _) _ _) _ _ _) _) _); refine' appF ?ap1 0 ?ap2 ?ap3 ?ap4 ?ape ?aps ?ap5 ?ap6; (case' ap1 => assumption); (case' ap2 => rfl); (case' ap3 => rfl); (case' ap4 => decide +kernel); (case' ape => wtm_at "ev"); (case' aps => try (wtm_at "sz")); (case' ap5 => decide +kernel); (case' ap6 => decide +kernel))
  | ((with_reducible show S1 _ _ (.Expr (.Call (.Attribute (.Name "at" _) _ _) _ _ _) _) _); refine' appF ?ap1 1 ?ap2 ?ap3 ?ap4 ?ape ?aps ?ap5 ?ap6; (case' ap1 => assumption); (case' ap2 => rfl); (case' ap3 => rfl); (case' ap4 => decide +kernel); (case' ape => wtm_at "ev"); (case' aps => try (wtm_at "sz")); (case' ap5 => decide +kernel); (case' ap6 => decide +kernel)))
local macro_rules | `(tactic| wtm_at "put") => `(tactic| first
  | ((with_reducible show S1 _ _ (.Assign [.Subscript (.Name "row" _) _ _] _ _) _); refine' putF ?pu1 0 ?pu2 ?pu3 ?pu4 ?pue ?pui ?pu5 ?pu6 ?pu7 ?pu8; (case' pu1 => assumption); (case' pu2 => rfl); (case' pu3 => rfl); (case' pu4 => decide +kernel); (case' pue => wtm_at "ev"); (case' pui => wtm_at "ev"); (case' pu5 => try (wtm_at "sd")); (case' pu6 => try (wtm_at "sd")); (case' pu7 => decide +kernel); (case' pu8 => decide +kernel))
  | ((with_reducible show S1 _ _ (.Assign [.Subscript (.Name "at" _) _ _] _ _) _); refine' putF ?pu1 1 ?pu2 ?pu3 ?pu4 ?pue ?pui ?pu5 ?pu6 ?pu7 ?pu8; (case' pu1 => assumption); (case' pu2 => rfl); (case' pu3 => rfl); (case' pu4 => decide +kernel); (case' pue => wtm_at "ev"); (case' pui => wtm_at "ev"); (case' pu5 => try (wtm_at "sd")); (case' pu6 => try (wtm_at "sd")); (case' pu7 => decide +kernel); (case' pu8 => decide +kernel)))
local macro_rules | `(tactic| wtm_at "reto") => `(tactic| first
  | ((with_reducible show S1 _ _ (.Return (some (.Name "row" _)) _) _); exact retOF (by assumption) 0 (by rfl) rfl (by decide +kernel) (by decide +kernel) (by decide +kernel))
  | ((with_reducible show S1 _ _ (.Return (some (.Name "at" _)) _) _); exact retOF (by assumption) 1 (by rfl) rfl (by decide +kernel) (by decide +kernel) (by decide +kernel)))
local macro_rules | `(tactic| wtm_at "tgt") => `(tactic| first
  | ((with_reducible show PG _ (.Name "row" _) _); exact tgF (by assumption) (by assumption) 0 (by rfl) (by decide +kernel))
  | ((with_reducible show PG _ (.Name "at" _) _); exact tgF (by assumption) (by assumption) 1 (by rfl) (by decide +kernel)))
theorem ok_lead {f : Addr} {fd : FuncData} (F : Fun K "lead_of" "lead_of" s_lead_of f fd) (hm : mg "lead_of" = some (.ref f)) (b : Binds K fd ["row"] []) (ml : mg "len" = none) (mr : mg "range" = none) : Fn P w K mg base 1 "lead_of" ["row"] rLead := by
  refine fnF F hm b sc_lead_of (fun ds r h => by cases h; rfl) fun X hX hT ds r h => ?_
  cases h with
  | @mk row h =>
    rcases lead_cases row with ⟨a, e⟩ | ⟨a, b, c⟩
    · rw [e]
      refine' sm_cons (A1 := [.dat (tI row), .un]) ?s1 ?_
      case' s1 =>
        refine' forR0 hX (n := row.length) 1 (fun _ => [.dat (tI row), .un]) ?i1 ?r1 ?g1 ?l1 (fun _ => rfl) (fun i hi => ?b1)
        case' i1 => wtm_at "iter"
        case r1 => simp
        case' g1 => wtm_at "tgt"
        case' l1 => wtm_at "le"
        case' b1 =>
          refine' sm_le (sm_one (s1_if (v := false) ?c1 (fun h => nomatch h) fun _ => sm_nil)) ?l2
          case' c1 =>
            refine' et_eq ?c2 ?c3
            case' c2 => wtm_at "test"
            case c3 => rw [a i hi]; rfl
          case' l2 => wtm_at "le"
      refine' sm_end (s1_retE ?e1 ?e2)
      case' e1 => wtm_at "ev"
      case e2 => simp
    · have e0 : (lead row : Int) = 0 + (lead row : Int) := by omega
      refine' sm_end ?s2
      case' s2 =>
        refine' forRx hX (m := row.length) (lo := 0) 1 (fun _ => [.dat (tI row), .un]) (lead row) a ?i2 ?r2 ?g2 ?l3 (fun _ => rfl) (fun i hi => ?b2) ?x2 (.rt _)
        case' i2 => wtm_at "iter"
        case r2 => simp
        case' g2 => wtm_at "tgt"
        case' l3 => wtm_at "le"
        case' b2 =>
          have hi2 : i < row.length := by omega
          rw [Int.zero_add]
          refine' sm_le (sm_one (s1_if (v := false) ?c4 (fun h => nomatch h) fun _ => sm_nil)) ?l4
          case' c4 =>
            refine' et_eq ?c5 ?c6
            case' c5 => wtm_at "test"
            case c6 => rw [b i hi]; rfl
          case' l4 => wtm_at "le"
        case' x2 =>
          rw [Int.zero_add]
          refine' sm_end (s1_if (v := true) ?c7 (fun _ => sm_end ?t7) fun h => nomatch h)
          case' c7 =>
            refine' et_eq ?c8 ?c9
            case' c8 => wtm_at "test"
            case c9 => simp [-List.getD_eq_getElem?_getD, c]
          case' t7 => wtm_at "st"
inductive rLess : List PyData → Res → Prop
  | mk {p c : Int} {r o : List Int} (h0 : 0 < p) (hl : r.length = o.length) (h : r.length ≤ 1000) (hc : -100000 ≤ c) (hc2 : c ≤ 100000) : rLess [.int p, tI r, tI o, .int c] (.ok (.dat (tI (lessV p r o c))))
local macro_rules | `(tactic| wtm_at "nm") => `(tactic| first
  | ((with_reducible show Ev _ _ (.Name "P" _) _); exact nmF (by assumption) 0 (by rfl) rfl (by decide +kernel) (by decide +kernel) (by decide +kernel))
  | ((with_reducible show Ev _ _ (.Name "row" _) _); exact nmF (by assumption) 1 (by rfl) rfl (by decide +kernel) (by decide +kernel) (by decide +kernel))
  | ((with_reducible show Ev _ _ (.Name "other" _) _); exact nmF (by assumption) 2 (by rfl) rfl (by decide +kernel) (by decide +kernel) (by decide +kernel))
  | ((with_reducible show Ev _ _ (.Name "c" _) _); exact nmF (by assumption) 3 (by rfl) rfl (by decide +kernel) (by decide +kernel) (by decide +kernel))
  | ((with_reducible show Ev _ _ (.Name "x" _) _); exact nmF (by assumption) 4 (by rfl) rfl (by decide +kernel) (by decide +kernel) (by decide +kernel))
  | ((with_reducible show Ev _ _ (.Name "y" _) _); exact nmF (by assumption) 5 (by rfl) rfl (by decide +kernel) (by decide +kernel) (by decide +kernel)))
local macro_rules | `(tactic| wtm_at "own") => `(tactic| first
  | ((with_reducible show EvS _ _ (.Name "P" _) _ _); exact ownF (by assumption) 0 (by rfl) rfl (by decide +kernel) (by decide +kernel) (by decide +kernel))
  | ((with_reducible show EvS _ _ (.Name "row" _) _ _); exact ownF (by assumption) 1 (by rfl) rfl (by decide +kernel) (by decide +kernel) (by decide +kernel))
  | ((with_reducible show EvS _ _ (.Name "other" _) _ _); exact ownF (by assumption) 2 (by rfl) rfl (by decide +kernel) (by decide +kernel) (by decide +kernel))
  | ((with_reducible show EvS _ _ (.Name "c" _) _ _); exact ownF (by assumption) 3 (by rfl) rfl (by decide +kernel) (by decide +kernel) (by decide +kernel))
  | ((with_reducible show EvS _ _ (.Name "x" _) _ _); exact ownF (by assumption) 4 (by rfl) rfl (by decide +kernel) (by decide +kernel) (by decide +kernel))
  | ((with_reducible show EvS _ _ (.Name "y" _) _ _); exact ownF (by assumption) 5 (by rfl) rfl (by decide +kernel) (by decide +kernel) (by decide +kernel)))
local macro_rules | `(tactic| wtm_at "ownl") => `(tactic| first
  | ((with_reducible show EvL _ _ (.Name "P" _) _); exact ownlF (by assumption) 0 (by rfl) rfl (by decide +kernel) (by decide +kernel) (by decide +kernel))
  | ((with_reducible show EvL _ _ (.Name "row" _) _); exact ownlF (by assumption) 1 (by rfl) rfl (by decide +kernel) (by decide +kernel) (by decide +kernel))
  | ((with_reducible show EvL _ _ (.Name "other" _) _); exact ownlF (by assumption) 2 (by rfl) rfl (by decide +kernel) (by decide +kernel) (by decide +kernel))
  | ((with_reducible show EvL _ _ (.Name "c" _) _); exact ownlF (by assumption) 3 (by rfl) rfl (by decide +kernel) (by decide +kernel) (by decide +kernel))
  | ((with_reducible show EvL _ _ (.Name "x" _) _); exact ownlF (by assumption) 4 (by rfl) rfl (by decide +kernel) (by decide +kernel) (by decide +kernel))
  | ((with_reducible show EvL _ _ (.Name "y" _) _); exact ownlF (by assumption) 5 (by rfl) rfl (by decide +kernel) (by decide +kernel) (by decide +kernel)))
local macro_rules | `(tactic| wtm_at "set") => `(tactic| first
  | ((with_reducible show S1 _ _ (.Assign [.Name "P" _] _ _) _); refine' setF ?st1 ?st2 0 ?st3 ?st4 ?ste ?st5; (case' st1 => assumption); (case' st2 => assumption); (case' st3 => rfl); (case' st4 => decide +kernel); (case' ste => wtm_at "ev"); (case' st5 => rfl))
  | ((with_reducible show S1 _ _ (.Assign [.Name "row" _] _ _) _); refine' setF ?st1 ?st2 1 ?st3 ?st4 ?ste ?st5; (case' st1 => assumption); (case' st2 => assumption); (case' st3 => rfl); (case' st4 => decide +kernel); (case' ste => wtm_at "ev"); (case' st5 => rfl))
  | ((with_reducible show S1 _ _ (.Assign [.Name "other" _] _ _) _); refine' setF ?st1 ?st2 2 ?st3 ?st4 ?ste ?st5; (case' st1 => assumption); (case' st2 => assumption); (case' st3 => rfl); (case' st4 => decide +kernel); (case' ste => wtm_at "ev"); (case' st5 => rfl))
  | ((with_reducible show S1 _ _ (.Assign [.Name "c" _] _ _) _); refine' setF ?st1 ?st2 3 ?st3 ?st4 ?ste ?st5; (case' st1 => assumption); (case' st2 => assumption); (case' st3 => rfl); (case' st4 => decide +kernel); (case' ste => wtm_at "ev"); (case' st5 => rfl)))
local macro_rules | `(tactic| wtm_at "app") => `(tactic| first
  | ((with_reducible show S1 _ _ (.Expr (.Call (.Attribute (.Name "P" _) _ _) _ _ _) _) _); refine' appF ?ap1 0 ?ap2 ?ap3 ?ap4 ?ape ?aps ?ap5 ?ap6; (case' ap1 => assumption); (case' ap2 => rfl); (case' ap3 => rfl); (case' ap4 => decide +kernel); (case' ape => wtm_at "ev"); (case' aps => try (wtm_at "sz")); (case' ap5 => decide +kernel); (case' ap6 => decide +kernel))
  | ((with_reducible show S1 _ _ (.Expr (.Call (.Attribute (.Name "row" _) _ _) _ _ _) _) _); refine' appF ?ap1 1 ?ap2 ?ap3 ?ap4 ?ape ?aps ?ap5 ?ap6; (case' ap1 => assumption); (case' ap2 => rfl); (case' ap3 => rfl); (case' ap4 => decide +kernel); (case' ape => wtm_at "ev"); (case' aps => try (wtm_at "sz")); (case' ap5 => decide +kernel); (case' ap6 => decide +kernel))
  | ((with_reducible show S1 _ _ (.Expr (.Call (.Attribute (.Name "other" _) _ _) _ _ _) _) _); refine' appF ?ap1 2 ?ap2 ?ap3 ?ap4 ?ape ?aps ?ap5 ?ap6; (case' ap1 => assumption); (case' ap2 => rfl); (case' ap3 => rfl); (case' ap4 => decide +kernel); (case' ape => wtm_at "ev"); (case' aps => try (wtm_at "sz")); (case' ap5 => decide +kernel); (case' ap6 => decide +kernel))
  | ((with_reducible show S1 _ _ (.Expr (.Call (.Attribute (.Name "c" _) _ _) _ _ _) _) _); refine' appF ?ap1 3 ?ap2 ?ap3 ?ap4 ?ape ?aps ?ap5 ?ap6; (case' ap1 => assumption); (case' ap2 => rfl); (case' ap3 => rfl); (case' ap4 => decide +kernel); (case' ape => wtm_at "ev"); (case' aps => try (wtm_at "sz")); (case' ap5 => decide +kernel); (case' ap6 => decide +kernel)))
local macro_rules | `(tactic| wtm_at "put") => `(tactic| first
  | ((with_reducible show S1 _ _ (.Assign [.Subscript (.Name "P" _) _ _] _ _) _); refine' putF ?pu1 0 ?pu2 ?pu3 ?pu4 ?pue ?pui ?pu5 ?pu6 ?pu7 ?pu8; (case' pu1 => assumption); (case' pu2 => rfl); (case' pu3 => rfl); (case' pu4 => decide +kernel); (case' pue => wtm_at "ev"); (case' pui => wtm_at "ev"); (case' pu5 => try (wtm_at "sd")); (case' pu6 => try (wtm_at "sd")); (case' pu7 => decide +kernel); (case' pu8 => decide +kernel))
  | ((with_reducible show S1 _ _ (.Assign [.Subscript (.Name "row" _) _ _] _ _) _); refine' putF ?pu1 1 ?pu2 ?pu3 ?pu4 ?pue ?pui ?pu5 ?pu6 ?pu7 ?pu8; (case' pu1 => assumption); (case' pu2 => rfl); (case' pu3 => rfl); (case' pu4 => decide +kernel); (case' pue => wtm_at "ev"); (case' pui => wtm_at "ev"); (case' pu5 => try (wtm_at "sd")); (case' pu6 => try (wtm_at "sd")); (case' pu7 => decide +kernel); (case' pu8 => decide +kernel))
  | ((with_reducible show S1 _ _ (.Assign [.Subscript (.Name "other" _) _ _] _ _) _); refine' putF ?pu1 2 ?pu2 ?pu3 ?pu4 ?pue ?pui ?pu5 ?pu6 ?pu7 ?pu8; (case' pu1 => assumption); (case' pu2 => rfl); (case' pu3 => rfl); (case' pu4 => decide +kernel); (case' pue => wtm_at "ev"); (case' pui => wtm_at "ev"); (case' pu5 => try (wtm_at "sd")); (case' pu6 => try (wtm_at "sd")); (case' pu7 => decide +kernel); (case' pu8 => decide +kernel))
  | ((with_reducible show S1 _ _ (.Assign [.Subscript (.Name "c" _) _ _] _ _) _); refine' putF ?pu1 3 ?pu2 ?pu3 ?pu4 ?pue ?pui ?pu5 ?pu6 ?pu7 ?pu8; (case' pu1 => assumption); (case' pu2 => rfl); (case' pu3 => rfl); (case' pu4 => decide +kernel); (case' pue => wtm_at "ev"); (case' pui => wtm_at "ev"); (case' pu5 => try (wtm_at "sd")); (case' pu6 => try (wtm_at "sd")); (case' pu7 => decide +kernel); (case' pu8 => decide +kernel)))
local macro_rules | `(tactic| wtm_at "reto") => `(tactic| first
  | ((with_reducible show S1 _ _ (.Return (some (.Name "P" _)) _) _); exact retOF (by assumption) 0 (by rfl) rfl (by decide +kernel) (by decide +kernel) (by decide +kernel))
  | ((with_reducible show S1 _ _ (.Return (some (.Name "row" _)) _) _); exact retOF (by assumption) 1 (by rfl) rfl (by decide +kernel) (by decide +kernel) (by decide +kernel))
  | ((with_reducible show S1 _ _ (.Return (some (.Name "other" _)) _) _); exact retOF (by assumption) 2 (by rfl) rfl (by decide +kernel) (by decide +kernel) (by decide +kernel))
  | ((with_reducible show S1 _ _ (.Return (some (.Name "c" _)) _) _); exact retOF (by assumption) 3 (by rfl) rfl (by decide +kernel) (by decide +kernel) (by decide +kernel)))
local macro_rules | `(tactic| wtm_at "tgt") => `(tactic| first
  | ((with_reducible show PG _ (.Name "P" _) _); exact tgF (by assumption) (by assumption) 0 (by rfl) (by decide +kernel))
  | ((with_reducible show PG _ (.Name "row" _) _); exact tgF (by assumption) (by assumption) 1 (by rfl) (by decide +kernel))
  | ((with_reducible show PG _ (.Name "other" _) _); exact tgF (by assumption) (by assumption) 2 (by rfl) (by decide +kernel))
  | ((with_reducible show PG _ (.Name "c" _) _); exact tgF (by assumption) (by assumption) 3 (by rfl) (by decide +kernel)))
theorem ok_less {f : Addr} {fd : FuncData} (F : Fun K "less" "less" s_less f fd) (hm : mg "less" = some (.ref f)) (b : Binds K fd ["P", "row", "other", "c"] []) (mt : mg "tuple" = none) (mz : mg "zip" = none) (Gon : Fn P w K mg base 1 "on" ["P", "n"] rOn) : Fn P w K mg base 2 "less" ["P", "row", "other", "c"] rLess := by
  refine fnF F hm b sc_less (fun ds r h => by cases h; rfl) fun X hX hT ds r h => ?_
  cases h with
  | @mk p c r o h0 hl h hc hc2 =>
    refine' sm_end (s1_retE ?e1 ?e2)
    case' e1 =>
      refine' tupleF hX ?g1 mt (evs_new ?l1)
      case' g1 => decide +kernel
      case' l1 =>
        refine' lcZ hX 4 5 (r.zip o) (fun z => .int z.1) (fun z => .int z.2) (fun z => .int ((z.1 - c * z.2) % p)) ?i1 rfl ?k1 ?n1 ?n2 ?x1 ?x2 (by decide) ?z1 ?j1 ?j2 fun Y hY z hz => ?b1
        case' i1 =>
          refine' zipTF hX (enc1 := PyData.int) (enc2 := PyData.int) ?q1 mz ?q2 ?q3
          case' q1 => decide +kernel
          case' q2 => wtm_at "ev"
          case' q3 => wtm_at "ev"
        case' k1 => decide +kernel
        case' n1 => rfl
        case' n2 => rfl
        case' x1 => decide +kernel
        case' x2 => decide +kernel
        case z1 => rw [List.length_zip, sizeLine_eq]; omega
        case' j1 => rfl
        case' j2 => rfl
        case' b1 =>
          have cm : CMul c z.2 := .inl (by omega)
          wtm_at "ev"
    case e2 =>
      show C.dat (.tuple _) = C.dat (.tuple (List.map PyData.int (List.map _ _)))
      rw [List.map_map]
      rfl
inductive rRest : List PyData → Res → Prop
  | mk {p : Int} {wd : Nat} {G : List (List Int)} {r : List Int} (h0 : 0 < p) (hG : RowsOn p wd G) (hl : r.length = wd) (ho : OnW p r) (h : wd ≤ 1000) (h9 : p ≤ 9999) (hld : ∀ q ∈ G, lead q < wd) (hz : G.length ≤ 1000) : rRest [.int p, lT G, tI r] (.ok (.dat (tI (restBy p G r))))
local macro_rules | `(tactic| wtm_at "R") => `(tactic| first
  | ((with_reducible apply rLead.mk) <;> first | (with_reducible assumption) | omega)
  | (constructor; all_goals try (wtm_at "sd")))
local macro_rules | `(tactic| wtm_at "nm") => `(tactic| first
  | ((with_reducible show Ev _ _ (.Name "P" _) _); exact nmF (by assumption) 0 (by rfl) rfl (by decide +kernel) (by decide +kernel) (by decide +kernel))
  | ((with_reducible show Ev _ _ (.Name "found" _) _); exact nmF (by assumption) 1 (by rfl) rfl (by decide +kernel) (by decide +kernel) (by decide +kernel))
  | ((with_reducible show Ev _ _ (.Name "row" _) _); exact nmF (by assumption) 2 (by rfl) rfl (by decide +kernel) (by decide +kernel) (by decide +kernel))
  | ((with_reducible show Ev _ _ (.Name "one" _) _); exact nmF (by assumption) 3 (by rfl) rfl (by decide +kernel) (by decide +kernel) (by decide +kernel)))
local macro_rules | `(tactic| wtm_at "own") => `(tactic| first
  | ((with_reducible show EvS _ _ (.Name "P" _) _ _); exact ownF (by assumption) 0 (by rfl) rfl (by decide +kernel) (by decide +kernel) (by decide +kernel))
  | ((with_reducible show EvS _ _ (.Name "found" _) _ _); exact ownF (by assumption) 1 (by rfl) rfl (by decide +kernel) (by decide +kernel) (by decide +kernel))
  | ((with_reducible show EvS _ _ (.Name "row" _) _ _); exact ownF (by assumption) 2 (by rfl) rfl (by decide +kernel) (by decide +kernel) (by decide +kernel))
  | ((with_reducible show EvS _ _ (.Name "one" _) _ _); exact ownF (by assumption) 3 (by rfl) rfl (by decide +kernel) (by decide +kernel) (by decide +kernel)))
local macro_rules | `(tactic| wtm_at "ownl") => `(tactic| first
  | ((with_reducible show EvL _ _ (.Name "P" _) _); exact ownlF (by assumption) 0 (by rfl) rfl (by decide +kernel) (by decide +kernel) (by decide +kernel))
  | ((with_reducible show EvL _ _ (.Name "found" _) _); exact ownlF (by assumption) 1 (by rfl) rfl (by decide +kernel) (by decide +kernel) (by decide +kernel))
  | ((with_reducible show EvL _ _ (.Name "row" _) _); exact ownlF (by assumption) 2 (by rfl) rfl (by decide +kernel) (by decide +kernel) (by decide +kernel))
  | ((with_reducible show EvL _ _ (.Name "one" _) _); exact ownlF (by assumption) 3 (by rfl) rfl (by decide +kernel) (by decide +kernel) (by decide +kernel)))
local macro_rules | `(tactic| wtm_at "set") => `(tactic| first
  | ((with_reducible show S1 _ _ (.Assign [.Name "P" _] _ _) _); refine' setF ?st1 ?st2 0 ?st3 ?st4 ?ste ?st5; (case' st1 => assumption); (case' st2 => assumption); (case' st3 => rfl); (case' st4 => decide +kernel); (case' ste => wtm_at "ev"); (case' st5 => rfl))
  | ((with_reducible show S1 _ _ (.Assign [.Name "found" _] _ _) _); refine' setF ?st1 ?st2 1 ?st3 ?st4 ?ste ?st5; (case' st1 => assumption); (case' st2 => assumption); (case' st3 => rfl); (case' st4 => decide +kernel); (case' ste => wtm_at "ev"); (case' st5 => rfl))
  | ((with_reducible show S1 _ _ (.Assign [.Name "row" _] _ _) _); refine' setF ?st1 ?st2 2 ?st3 ?st4 ?ste ?st5; (case' st1 => assumption); (case' st2 => assumption); (case' st3 => rfl); (case' st4 => decide +kernel); (case' ste => wtm_at "ev"); (case' st5 => rfl))
  | ((with_reducible show S1 _ _ (.Assign [.Name "one" _] _ _) _); refine' setF ?st1 ?st2 3 ?st3 ?st4 ?ste ?st5; (case' st1 => assumption); (case' st2 => assumption); (case' st3 => rfl); (case' st4 => decide +kernel); (case' ste => wtm_at "ev"); (case' st5 => rfl)))
local macro_rules | `(tactic| wtm_at "app") => `(tactic| first
  | ((with_reducible show S1 _ _ (.Expr (.Call (.Attribute (.Name "P" _) _ _) _ _ _) _) _); refine' appF ?ap1 0 ?ap2 ?ap3 ?ap4 ?ape ?aps ?ap5 ?ap6; (case' ap1 => assumption); (case' ap2 => rfl); (case' ap3 => rfl); (case' ap4 => decide +kernel); (case' ape => wtm_at "ev"); (case' aps => try (wtm_at "sz")); (case' ap5 => decide +kernel); (case' ap6 => decide +kernel))
  | ((with_reducible show S1 _ _ (.Expr (.Call (.Attribute (.Name "found" _) _ _) _ _ _) _) _); refine' appF ?ap1 1 ?ap2 ?ap3 ?ap4 ?ape ?aps ?ap5 ?ap6; (case' ap1 => assumption); (case' ap2 => rfl); (case' ap3 => rfl); (case' ap4 => decide +kernel); (case' ape => wtm_at "ev"); (case' aps => try (wtm_at "sz")); (case' ap5 => decide +kernel); (case' ap6 => decide +kernel))
  | ((with_reducible show S1 _ _ (.Expr (.Call (.Attribute (.Name "row" _) _ _) _ _ _) _) _); refine' appF ?ap1 2 ?ap2 ?ap3 ?ap4 ?ape ?aps ?ap5 ?ap6; (case' ap1 => assumption); (case' ap2 => rfl); (case' ap3 => rfl); (case' ap4 => decide +kernel); (case' ape => wtm_at "ev"); (case' aps => try (wtm_at "sz")); (case' ap5 => decide +kernel); (case' ap6 => decide +kernel))
  | ((with_reducible show S1 _ _ (.Expr (.Call (.Attribute (.Name "one" _) _ _) _ _ _) _) _); refine' appF ?ap1 3 ?ap2 ?ap3 ?ap4 ?ape ?aps ?ap5 ?ap6; (case' ap1 => assumption); (case' ap2 => rfl); (case' ap3 => rfl); (case' ap4 => decide +kernel); (case' ape => wtm_at "ev"); (case' aps => try (wtm_at "sz")); (case' ap5 => decide +kernel); (case' ap6 => decide +kernel)))
local macro_rules | `(tactic| wtm_at "put") => `(tactic| first
  | ((with_reducible show S1 _ _ (.Assign [.Subscript (.Name "P" _) _ _] _ _) _); refine' putF ?pu1 0 ?pu2 ?pu3 ?pu4 ?pue ?pui ?pu5 ?pu6 ?pu7 ?pu8; (case' pu1 => assumption); (case' pu2 => rfl); (case' pu3 => rfl); (case' pu4 => decide +kernel); (case' pue => wtm_at "ev"); (case' pui => wtm_at "ev"); (case' pu5 => try (wtm_at "sd")); (case' pu6 => try (wtm_at "sd")); (case' pu7 => decide +kernel); (case' pu8 => decide +kernel))
  | ((with_reducible show S1 _ _ (.Assign [.Subscript (.Name "found" _) _ _] _ _) _); refine' putF ?pu1 1 ?pu2 ?pu3 ?pu4 ?pue ?pui ?pu5 ?pu6 ?pu7 ?pu8; (case' pu1 => assumption); (case' pu2 => rfl); (case' pu3 => rfl); (case' pu4 => decide +kernel); (case' pue => wtm_at "ev"); (case' pui => wtm_at "ev"); (case' pu5 => try (wtm_at "sd")); (case' pu6 => try (wtm_at "sd")); (case' pu7 => decide +kernel); (case' pu8 => decide +kernel))
  | ((with_reducible show S1 _ _ (.Assign [.Subscript (.Name "row" _) _ _] _ _) _); refine' putF ?pu1 2 ?pu2 ?pu3 ?pu4 ?pue ?pui ?pu5 ?pu6 ?pu7 ?pu8; (case' pu1 => assumption); (case' pu2 => rfl); (case' pu3 => rfl); (case' pu4 => decide +kernel); (case' pue => wtm_at "ev"); (case' pui => wtm_at "ev"); (case' pu5 => try (wtm_at "sd")); (case' pu6 => try (wtm_at "sd")); (case' pu7 => decide +kernel); (case' pu8 => decide +kernel))
  | ((with_reducible show S1 _ _ (.Assign [.Subscript (.Name "one" _) _ _] _ _) _); refine' putF ?pu1 3 ?pu2 ?pu3 ?pu4 ?pue ?pui ?pu5 ?pu6 ?pu7 ?pu8; (case' pu1 => assumption); (case' pu2 => rfl); (case' pu3 => rfl); (case' pu4 => decide +kernel); (case' pue => wtm_at "ev"); (case' pui => wtm_at "ev"); (case' pu5 => try (wtm_at "sd")); (case' pu6 => try (wtm_at "sd")); (case' pu7 => decide +kernel); (case' pu8 => decide +kernel)))
local macro_rules | `(tactic| wtm_at "reto") => `(tactic| first
  | ((with_reducible show S1 _ _ (.Return (some (.Name "P" _)) _) _); exact retOF (by assumption) 0 (by rfl) rfl (by decide +kernel) (by decide +kernel) (by decide +kernel))
  | ((with_reducible show S1 _ _ (.Return (some (.Name "found" _)) _) _); exact retOF (by assumption) 1 (by rfl) rfl (by decide +kernel) (by decide +kernel) (by decide +kernel))
  | ((with_reducible show S1 _ _ (.Return (some (.Name "row" _)) _) _); exact retOF (by assumption) 2 (by rfl) rfl (by decide +kernel) (by decide +kernel) (by decide +kernel))
  | ((with_reducible show S1 _ _ (.Return (some (.Name "one" _)) _) _); exact retOF (by assumption) 3 (by rfl) rfl (by decide +kernel) (by decide +kernel) (by decide +kernel)))
local macro_rules | `(tactic| wtm_at "tgt") => `(tactic| first
  | ((with_reducible show PG _ (.Name "P" _) _); exact tgF (by assumption) (by assumption) 0 (by rfl) (by decide +kernel))
  | ((with_reducible show PG _ (.Name "found" _) _); exact tgF (by assumption) (by assumption) 1 (by rfl) (by decide +kernel))
  | ((with_reducible show PG _ (.Name "row" _) _); exact tgF (by assumption) (by assumption) 2 (by rfl) (by decide +kernel))
  | ((with_reducible show PG _ (.Name "one" _) _); exact tgF (by assumption) (by assumption) 3 (by rfl) (by decide +kernel)))
theorem ok_rest {f : Addr} {fd : FuncData} (F : Fun K "rest_by" "rest_by" s_rest_by f fd) (hm : mg "rest_by" = some (.ref f)) (b : Binds K fd ["P", "found", "row"] []) (Gl : Fn P w K mg base 1 "lead_of" ["row"] rLead) (Gs : Fn P w K mg base 2 "less" ["P", "row", "other", "c"] rLess) : Fn P w K mg base 3 "rest_by" ["P", "found", "row"] rRest := by
  refine fnF F hm b sc_rest_by (fun ds r h => by cases h; rfl) fun X hX hT ds r h => ?_
  cases h with
  | @mk p wd G r h0 hG hl ho h h9 hld hz =>
    have one : ∀ k, k ≤ G.length → (restBy p (G.take k) r).length = wd ∧ OnW p (restBy p (G.take k) r) := fun k _ => rest_on h0 (fun q hq => hG q (List.mem_of_mem_take hq)) hl ho
    refine' sm_cons (A1 := [.dat (.int p), .dat (lT G), .dat (tI (restBy p G r)), .un]) ?s1 ?_
    case' s1 =>
      refine' s1_le (forL hX 3 G tI (fun i => [.dat (.int p), .dat (lT G), .dat (tI (restBy p (G.take i) r)), .un]) ?i1 rfl ?g1 ?l1 (fun _ => rfl) (fun i hi => ?b1)) ?l2
      case' i1 => wtm_at "iter"
      case' g1 => wtm_at "tgt"
      case' l1 =>
        rw [List.take_zero]
        show LeA _ [.dat (.int p), .dat (lT G), .dat (tI r), .un]
        wtm_at "le"
      case' l2 =>
        rw [List.take_length]
        wtm_at "le"
      case' b1 =>
        have e : restBy p (G.take (i + 1)) r = lessV p (restBy p (G.take i) r) G[i] ((restBy p (G.take i) r).getD (lead G[i]) 0) := by
          unfold restBy
          rw [List.take_add_one, List.getElem?_eq_getElem hi, List.foldl_append]
          rfl
        rw [e]
        obtain ⟨a1, a2⟩ := one i (by omega)
        obtain ⟨b1, b2⟩ := hG _ (List.getElem_mem hi)
        have b3 := hld _ (List.getElem_mem hi)
        generalize restBy p (G.take i) r = q at *
        generalize G[i] = o at *
        have hll : lead o < q.length := by omega
        obtain ⟨c1, c2⟩ := a2 _ (getD_mem (z := 0) hll)
        have r1 : o.length ≤ 1000 := by omega
        refine' sm_le (sm_one ?t1) ?l3
        case' t1 =>
          refine' setF hX hT 2 (by rfl) ?q1 (callF hX Gs (by decide) ?q2 ?q3 (rLess.mk (c := q.getD (lead o) 0) h0 (show q.length = o.length by omega) (by omega) (by omega) (by omega)) ?q4) (by rfl)
          case' q1 => decide +kernel
          case' q2 => decide +kernel
          case' q3 => wtm_at "args"
          case' q4 => decide +kernel
        case' l3 => wtm_at "le"
    refine' sm_end (s1_retE ?e1 ?e2)
    case' e1 => wtm_at "ev"
    case e2 => rfl
inductive rWith : List PyData → Res → Prop
  | same {p : Int} {wd : Nat} {G : List (List Int)} {r : List Int} (hp : Prm p) (hG : RowsOn p wd G) (hl : r.length = wd) (ho : OnW p r) (h : wd ≤ 1000) (hld : ∀ q ∈ G, lead q < wd) (hz : G.length ≤ 900) (hs : lead (restBy p G r) = wd) : rWith [.int p, lT G, tI r] (.ok (.dat (lT G)))
  | new {p : Int} {wd : Nat} {G : List (List Int)} {r : List Int} (hp : Prm p) (hG : RowsOn p wd G) (hl : r.length = wd) (ho : OnW p r) (h : wd ≤ 1000) (hld : ∀ q ∈ G, lead q < wd) (hz : G.length ≤ 900) (hs : lead (restBy p G r) ≠ wd) : rWith [.int p, lT G, tI r] (.ok (.own (.lst ((addRow p G (restBy p G r)).map tI))))
local macro_rules | `(tactic| wtm_at "R") => `(tactic| first
  | ((with_reducible apply rLead.mk) <;> first | (with_reducible assumption) | omega)
  | (constructor; all_goals try (wtm_at "sd")))
local macro_rules | `(tactic| wtm_at "nm") => `(tactic| first
  | ((with_reducible show Ev _ _ (.Name "P" _) _); exact nmF (by assumption) 0 (by rfl) rfl (by decide +kernel) (by decide +kernel) (by decide +kernel))
  | ((with_reducible show Ev _ _ (.Name "found" _) _); exact nmF (by assumption) 1 (by rfl) rfl (by decide +kernel) (by decide +kernel) (by decide +kernel))
  | ((with_reducible show Ev _ _ (.Name "row" _) _); exact nmF (by assumption) 2 (by rfl) rfl (by decide +kernel) (by decide +kernel) (by decide +kernel))
  | ((with_reducible show Ev _ _ (.Name "at" _) _); exact nmF (by assumption) 3 (by rfl) rfl (by decide +kernel) (by decide +kernel) (by decide +kernel))
  | ((with_reducible show Ev _ _ (.Name "c" _) _); exact nmF (by assumption) 4 (by rfl) rfl (by decide +kernel) (by decide +kernel) (by decide +kernel))
  | ((with_reducible show Ev _ _ (.Name "x" _) _); exact nmF (by assumption) 5 (by rfl) rfl (by decide +kernel) (by decide +kernel) (by decide +kernel))
  | ((with_reducible show Ev _ _ (.Name "one" _) _); exact nmF (by assumption) 6 (by rfl) rfl (by decide +kernel) (by decide +kernel) (by decide +kernel)))
local macro_rules | `(tactic| wtm_at "own") => `(tactic| first
  | ((with_reducible show EvS _ _ (.Name "P" _) _ _); exact ownF (by assumption) 0 (by rfl) rfl (by decide +kernel) (by decide +kernel) (by decide +kernel))
  | ((with_reducible show EvS _ _ (.Name "found" _) _ _); exact ownF (by assumption) 1 (by rfl) rfl (by decide +kernel) (by decide +kernel) (by decide +kernel))
  | ((with_reducible show EvS _ _ (.Name "row" _) _ _); exact ownF (by assumption) 2 (by rfl) rfl (by decide +kernel) (by decide +kernel) (by decide +kernel))
  | ((with_reducible show EvS _ _ (.Name "at" _) _ _); exact ownF (by assumption) 3 (by rfl) rfl (by decide +kernel) (by decide +kernel) (by decide +kernel))
  | ((with_reducible show EvS _ _ (.Name "c" _) _ _); exact ownF (by assumption) 4 (by rfl) rfl (by decide +kernel) (by decide +kernel) (by decide +kernel))
  | ((with_reducible show EvS _ _ (.Name "x" _) _ _); exact ownF (by assumption) 5 (by rfl) rfl (by decide +kernel) (by decide +kernel) (by decide +kernel))
  | ((with_reducible show EvS _ _ (.Name "one" _) _ _); exact ownF (by assumption) 6 (by rfl) rfl (by decide +kernel) (by decide +kernel) (by decide +kernel)))
local macro_rules | `(tactic| wtm_at "ownl") => `(tactic| first
  | ((with_reducible show EvL _ _ (.Name "P" _) _); exact ownlF (by assumption) 0 (by rfl) rfl (by decide +kernel) (by decide +kernel) (by decide +kernel))
  | ((with_reducible show EvL _ _ (.Name "found" _) _); exact ownlF (by assumption) 1 (by rfl) rfl (by decide +kernel) (by decide +kernel) (by decide +kernel))
  | ((with_reducible show EvL _ _ (.Name "row" _) _); exact ownlF (by assumption) 2 (by rfl) rfl (by decide +kernel) (by decide +kernel) (by decide +kernel))
  | ((with_reducible show EvL _ _ (.Name "at" _) _); exact ownlF (by assumption) 3 (by rfl) rfl (by decide +kernel) (by decide +kernel) (by decide +kernel))
  | ((with_reducible show EvL _ _ (.Name "c" _) _); exact ownlF (by assumption) 4 (by rfl) rfl (by decide +kernel) (by decide +kernel) (by decide +kernel))
  | ((with_reducible show EvL _ _ (.Name "x" _) _); exact ownlF (by assumption) 5 (by rfl) rfl (by decide +kernel) (by decide +kernel) (by decide +kernel))
  | ((with_reducible show EvL _ _ (.Name "one" _) _); exact ownlF (by assumption) 6 (by rfl) rfl (by decide +kernel) (by decide +kernel) (by decide +kernel)))
local macro_rules | `(tactic| wtm_at "set") => `(tactic| first
  | ((with_reducible show S1 _ _ (.Assign [.Name "P" _] _ _) _); refine' setF ?st1 ?st2 0 ?st3 ?st4 ?ste ?st5; (case' st1 => assumption); (case' st2 => assumption); (case' st3 => rfl); (case' st4 => decide +kernel); (case' ste => wtm_at "ev"); (case' st5 => rfl))
  | ((with_reducible show S1 _ _ (.Assign [.Name "found" _] _ _) _); refine' setF ?st1 ?st2 1 ?st3 ?st4 ?ste ?st5; (case' st1 => assumption); (case' st2 => assumption); (case' st3 => rfl); (case' st4 => decide +kernel); (case' ste => wtm_at "ev"); (case' st5 => rfl))
  | ((with_reducible show S1 _ _ (.Assign [.Name "row" _] _ _) _); refine' setF ?st1 ?st2 2 ?st3 ?st4 ?ste ?st5; (case' st1 => assumption); (case' st2 => assumption); (case' st3 => rfl); (case' st4 => decide +kernel); (case' ste => wtm_at "ev"); (case' st5 => rfl))
  | ((with_reducible show S1 _ _ (.Assign [.Name "at" _] _ _) _); refine' setF ?st1 ?st2 3 ?st3 ?st4 ?ste ?st5; (case' st1 => assumption); (case' st2 => assumption); (case' st3 => rfl); (case' st4 => decide +kernel); (case' ste => wtm_at "ev"); (case' st5 => rfl))
  | ((with_reducible show S1 _ _ (.Assign [.Name "c" _] _ _) _); refine' setF ?st1 ?st2 4 ?st3 ?st4 ?ste ?st5; (case' st1 => assumption); (case' st2 => assumption); (case' st3 => rfl); (case' st4 => decide +kernel); (case' ste => wtm_at "ev"); (case' st5 => rfl)))
local macro_rules | `(tactic| wtm_at "app") => `(tactic| first
  | ((with_reducible show S1 _ _ (.Expr (.Call (.Attribute (.Name "P" _) _ _) _ _ _) _) _); refine' appF ?ap1 0 ?ap2 ?ap3 ?ap4 ?ape ?aps ?ap5 ?ap6; (case' ap1 => assumption); (case' ap2 => rfl); (case' ap3 => rfl); (case' ap4 => decide +kernel); (case' ape => wtm_at "ev"); (case' aps => try (wtm_at "sz")); (case' ap5 => decide +kernel); (case' ap6 => decide +kernel))
  | ((with_reducible show S1 _ _ (.Expr (.Call (.Attribute (.Name "found" _) _ _) _ _ _) _) _); refine' appF ?ap1 1 ?ap2 ?ap3 ?ap4 ?ape ?aps ?ap5 ?ap6; (case' ap1 => assumption); (case' ap2 => rfl); (case' ap3 => rfl); (case' ap4 => decide +kernel); (case' ape => wtm_at "ev"); (case' aps => try (wtm_at "sz")); (case' ap5 => decide +kernel); (case' ap6 => decide +kernel))
  | ((with_reducible show S1 _ _ (.Expr (.Call (.Attribute (.Name "row" _) _ _) _ _ _) _) _); refine' appF ?ap1 2 ?ap2 ?ap3 ?ap4 ?ape ?aps ?ap5 ?ap6; (case' ap1 => assumption); (case' ap2 => rfl); (case' ap3 => rfl); (case' ap4 => decide +kernel); (case' ape => wtm_at "ev"); (case' aps => try (wtm_at "sz")); (case' ap5 => decide +kernel); (case' ap6 => decide +kernel))
  | ((with_reducible show S1 _ _ (.Expr (.Call (.Attribute (.Name "at" _) _ _) _ _ _) _) _); refine' appF ?ap1 3 ?ap2 ?ap3 ?ap4 ?ape ?aps ?ap5 ?ap6; (case' ap1 => assumption); (case' ap2 => rfl); (case' ap3 => rfl); (case' ap4 => decide +kernel); (case' ape => wtm_at "ev"); (case' aps => try (wtm_at "sz")); (case' ap5 => decide +kernel); (case' ap6 => decide +kernel))
  | ((with_reducible show S1 _ _ (.Expr (.Call (.Attribute (.Name "c" _) _ _) _ _ _) _) _); refine' appF ?ap1 4 ?ap2 ?ap3 ?ap4 ?ape ?aps ?ap5 ?ap6; (case' ap1 => assumption); (case' ap2 => rfl); (case' ap3 => rfl); (case' ap4 => decide +kernel); (case' ape => wtm_at "ev"); (case' aps => try (wtm_at "sz")); (case' ap5 => decide +kernel); (case' ap6 => decide +kernel)))
local macro_rules | `(tactic| wtm_at "put") => `(tactic| first
  | ((with_reducible show S1 _ _ (.Assign [.Subscript (.Name "P" _) _ _] _ _) _); refine' putF ?pu1 0 ?pu2 ?pu3 ?pu4 ?pue ?pui ?pu5 ?pu6 ?pu7 ?pu8; (case' pu1 => assumption); (case' pu2 => rfl); (case' pu3 => rfl); (case' pu4 => decide +kernel); (case' pue => wtm_at "ev"); (case' pui => wtm_at "ev"); (case' pu5 => try (wtm_at "sd")); (case' pu6 => try (wtm_at "sd")); (case' pu7 => decide +kernel); (case' pu8 => decide +kernel))
  | ((with_reducible show S1 _ _ (.Assign [.Subscript (.Name "found" _) _ _] _ _) _); refine' putF ?pu1 1 ?pu2 ?pu3 ?pu4 ?pue ?pui ?pu5 ?pu6 ?pu7 ?pu8; (case' pu1 => assumption); (case' pu2 => rfl); (case' pu3 => rfl); (case' pu4 => decide +kernel); (case' pue => wtm_at "ev"); (case' pui => wtm_at "ev"); (case' pu5 => try (wtm_at "sd")); (case' pu6 => try (wtm_at "sd")); (case' pu7 => decide +kernel); (case' pu8 => decide +kernel))
  | ((with_reducible show S1 _ _ (.Assign [.Subscript (.Name "row" _) _ _] _ _) _); refine' putF ?pu1 2 ?pu2 ?pu3 ?pu4 ?pue ?pui ?pu5 ?pu6 ?pu7 ?pu8; (case' pu1 => assumption); (case' pu2 => rfl); (case' pu3 => rfl); (case' pu4 => decide +kernel); (case' pue => wtm_at "ev"); (case' pui => wtm_at "ev"); (case' pu5 => try (wtm_at "sd")); (case' pu6 => try (wtm_at "sd")); (case' pu7 => decide +kernel); (case' pu8 => decide +kernel))
  | ((with_reducible show S1 _ _ (.Assign [.Subscript (.Name "at" _) _ _] _ _) _); refine' putF ?pu1 3 ?pu2 ?pu3 ?pu4 ?pue ?pui ?pu5 ?pu6 ?pu7 ?pu8; (case' pu1 => assumption); (case' pu2 => rfl); (case' pu3 => rfl); (case' pu4 => decide +kernel); (case' pue => wtm_at "ev"); (case' pui => wtm_at "ev"); (case' pu5 => try (wtm_at "sd")); (case' pu6 => try (wtm_at "sd")); (case' pu7 => decide +kernel); (case' pu8 => decide +kernel))
  | ((with_reducible show S1 _ _ (.Assign [.Subscript (.Name "c" _) _ _] _ _) _); refine' putF ?pu1 4 ?pu2 ?pu3 ?pu4 ?pue ?pui ?pu5 ?pu6 ?pu7 ?pu8; (case' pu1 => assumption); (case' pu2 => rfl); (case' pu3 => rfl); (case' pu4 => decide +kernel); (case' pue => wtm_at "ev"); (case' pui => wtm_at "ev"); (case' pu5 => try (wtm_at "sd")); (case' pu6 => try (wtm_at "sd")); (case' pu7 => decide +kernel); (case' pu8 => decide +kernel)))
local macro_rules | `(tactic| wtm_at "reto") => `(tactic| first
  | ((with_reducible show S1 _ _ (.Return (some (.Name "P" _)) _) _); exact retOF (by assumption) 0 (by rfl) rfl (by decide +kernel) (by decide +kernel) (by decide +kernel))
  | ((with_reducible show S1 _ _ (.Return (some (.Name "found" _)) _) _); exact retOF (by assumption) 1 (by rfl) rfl (by decide +kernel) (by decide +kernel) (by decide +kernel))
  | ((with_reducible show S1 _ _ (.Return (some (.Name "row" _)) _) _); exact retOF (by assumption) 2 (by rfl) rfl (by decide +kernel) (by decide +kernel) (by decide +kernel))
  | ((with_reducible show S1 _ _ (.Return (some (.Name "at" _)) _) _); exact retOF (by assumption) 3 (by rfl) rfl (by decide +kernel) (by decide +kernel) (by decide +kernel))
  | ((with_reducible show S1 _ _ (.Return (some (.Name "c" _)) _) _); exact retOF (by assumption) 4 (by rfl) rfl (by decide +kernel) (by decide +kernel) (by decide +kernel)))
local macro_rules | `(tactic| wtm_at "tgt") => `(tactic| first
  | ((with_reducible show PG _ (.Name "P" _) _); exact tgF (by assumption) (by assumption) 0 (by rfl) (by decide +kernel))
  | ((with_reducible show PG _ (.Name "found" _) _); exact tgF (by assumption) (by assumption) 1 (by rfl) (by decide +kernel))
  | ((with_reducible show PG _ (.Name "row" _) _); exact tgF (by assumption) (by assumption) 2 (by rfl) (by decide +kernel))
  | ((with_reducible show PG _ (.Name "at" _) _); exact tgF (by assumption) (by assumption) 3 (by rfl) (by decide +kernel))
  | ((with_reducible show PG _ (.Name "c" _) _); exact tgF (by assumption) (by assumption) 4 (by rfl) (by decide +kernel)))
theorem ok_with {f : Addr} {fd : FuncData} (F : Fun K "with_row" "with_row" s_with_row f fd) (hm : mg "with_row" = some (.ref f)) (b : Binds K fd ["P", "found", "row"] []) (ml : mg "len" = none) (mt : mg "tuple" = none) (mso : mg "sorted" = none) (Gon : Fn P w K mg base 1 "on" ["P", "n"] rOn) (Gb : Fn P w K mg base 2 "back" ["P", "n"] rBack)
    (Gl : Fn P w K mg base 1 "lead_of" ["row"] rLead) (Gs : Fn P w K mg base 2 "less" ["P", "row", "other", "c"] rLess) (Gr : Fn P w K mg base 3 "rest_by" ["P", "found", "row"] rRest) : Fn P w K mg base 4 "with_row" ["P", "found", "row"] rWith := by
  refine fnF F hm b sc_with_row (fun ds r h => by cases h <;> rfl) fun X hX hT ds r h => ?_
  have front : ∀ {p : Int} {wd : Nat} {G : List (List Int)} {r : List Int} {o : Out}, Prm p → RowsOn p wd G → r.length = wd → OnW p r → wd ≤ 1000 → (∀ q ∈ G, lead q < wd) → G.length ≤ 900 →
      Sm X [.dat (.int p), .dat (lT G), .dat (tI (restBy p G r)), .dat (.int (lead (restBy p G r))), .un, .un, .un] ((defBody s_with_row).drop 2) o → Sm X (A0 ["P", "found", "row", "at", "c", "x", "one"] [.int p, lT G, tI r]) (defBody s_with_row) o := by
    intro p wd G r o hp hG hl ho h hld hz hh
    have p3 := hp.lo
    have p9 := hp.hi
    have p0 : 0 < p := by omega
    have hz1 : G.length ≤ 1000 := by omega
    obtain ⟨r1, r2⟩ := rest_on p0 hG hl ho
    have r3 : (restBy p G r).length ≤ 1000 := by omega
    refine' sm_cons ?fs1 ?_
    case' fs1 =>
      refine' setF hX hT 2 (by rfl) ?fq1 (callF hX Gr (by decide) ?fq2 ?fq3 (rRest.mk p0 hG hl ho h (by omega) hld hz1) ?fq4) (by rfl)
      case' fq1 => decide +kernel
      case' fq2 => decide +kernel
      case' fq3 => wtm_at "args"
      case' fq4 => decide +kernel
    generalize restBy p G r = q at *
    refine' sm_cons ?fs2 ?_
    case' fs2 => wtm_at "st"
    exact hh
  cases h with
  | @same p wd G r hp hG hl ho h hld hz hs =>
    have r1 := (rest_on (show 0 < p by have := hp.lo; omega) hG hl ho).1
    refine front hp hG hl ho h hld hz ?_
    generalize restBy p G r = q at *
    refine' sm_end (s1_if (v := true) ?c1 (fun _ => sm_end ?t1) fun h => nomatch h)
    case' c1 =>
      refine' et_eq ?c2 ?c3
      case' c2 => wtm_at "test"
      case c3 => simp [hs, r1]
    case' t1 => wtm_at "st"
  | @new p wd G r hp hG hl ho h hld hz hs =>
    have p3 := hp.lo
    have p9 := hp.hi
    have p0 : 0 < p := by omega
    obtain ⟨r1, r2⟩ := rest_on p0 hG hl ho
    refine front hp hG hl ho h hld hz ?_
    generalize restBy p G r = q at *
    have hlt : lead q < q.length := by have := lead_le q; omega
    have hn0 : q.getD (lead q) 0 ≠ 0 := by
      rcases lead_cases q with ⟨_, e⟩ | ⟨_, _, c⟩
      · omega
      · exact c
    obtain ⟨b0, b1⟩ := r2 _ (getD_mem (z := 0) hlt)
    have hbk : q.getD (lead q) 0 % p ≠ 0 := by rw [Int.emod_eq_of_lt b0 b1]; exact hn0
    obtain ⟨k0, k1, _⟩ := back_ok hp hbk
    refine' sm_cons (s1_if (v := false) ?d1 (fun h => nomatch h) fun _ => sm_nil) ?_
    case' d1 =>
      refine' et_eq ?d2 ?d3
      case' d2 => wtm_at "test"
      case d3 => simp; omega
    refine' sm_cons (A1 := [.dat (.int p), .dat (lT G), .dat (tI q), .dat (.int (lead q)), .dat (.int (backN p (q.getD (lead q) 0))), .un, .un]) ?s3 ?_
    case' s3 =>
      refine' setF hX hT 4 (by rfl) ?q1 (callF hX Gb (by decide) ?q2 ?q3 (rBack.mk hp hbk) ?q4) (by rfl)
      case' q1 => decide +kernel
      case' q2 => decide +kernel
      case' q3 => wtm_at "args"
      case' q4 => decide +kernel
    have eA : addRow p G q = ((G.map fun one => lessV p one (newRow p q) (one.getD (lead q) 0)) ++ [newRow p q]).mergeSort fun a b => decide ((lead a : Int) ≤ (lead b : Int)) := rfl
    rw [eA]
    have en : newRow p q = q.map fun x => (backN p (q.getD (lead q) 0) * x) % p := rfl
    have n1 := newRow_on p0 (r := q)
    generalize hbb : backN p (q.getD (lead q) 0) = c at *
    refine' sm_cons (A1 := [.dat (.int p), .dat (lT G), .dat (tI (newRow p q)), .dat (.int (lead q)), .dat (.int c), .un, .un]) ?s4 ?_
    case' s4 =>
      refine' setF hX hT 2 (by rfl) ?u1 (ev_eq (tupleF hX ?u2 mt (evs_new ?u3)) ?u4) (by rfl)
      case' u1 => decide +kernel
      case' u2 => decide +kernel
      case' u3 =>
        refine' lcF hX 5 q .int (fun x => .int ((c * x) % p)) ?i5 rfl ?k5 ?n5 ?x5 ?z5 ?j5 fun Y hY z hz => ?b5
        case' i5 => wtm_at "iter"
        case' k5 => decide +kernel
        case' n5 => rfl
        case' x5 => decide +kernel
        case z5 => rw [sizeLine_eq]; omega
        case' j5 => rfl
        case' b5 =>
          have cm : CMul c z := .inl (by omega)
          wtm_at "ev"
      case u4 =>
        rw [en]
        show C.dat (.tuple _) = C.dat (.tuple (List.map PyData.int (List.map _ _)))
        rw [List.map_map]
        rfl
    generalize newRow p q = nr at *
    refine' sm_end (s1_retE ?e1 ?e2)
    case' e1 =>
      refine' sortF hX (enc := tI) (xs := (G.map fun one => lessV p one nr (one.getD (lead q) 0)) ++ [nr]) (fun a => (lead a : Int)) unT Gl (by decide) ?v1 mso ?v2 (evs_new (ev_eq (ev_catL (evl_new ?v3) (evl_new ?v4) ?v5) ?v6)) unT_t (fun x hx => rLead.mk ?v7) ?v8
      case' v1 => decide +kernel
      case' v2 => decide +kernel
      case' v3 =>
        refine' lcF hX 6 G tI (fun one => tI (lessV p one nr (one.getD (lead q) 0))) ?i6 rfl ?k6 ?n6 ?x6 ?z6 ?j6 fun Y hY z hz => ?b6
        case' i6 => wtm_at "iter"
        case' k6 => decide +kernel
        case' n6 => rfl
        case' x6 => decide +kernel
        case z6 => rw [sizeLine_eq]; omega
        case' j6 => rfl
        case' b6 =>
          obtain ⟨z1, z2⟩ := hG z hz
          have z3 : lead q < z.length := by omega
          obtain ⟨z4, z5⟩ := z2 _ (getD_mem (z := 0) z3)
          refine' callF hY Gs (by decide) ?y2 ?y3 (rLess.mk (c := z.getD (lead q) 0) p0 (show z.length = nr.length by omega) (by omega) (by omega) (by omega)) ?y4
          case' y2 => decide +kernel
          case' y3 => wtm_at "args"
          case' y4 => decide +kernel
      case' v4 => wtm_at "evl"
      case v5 => simp [sizeLine_eq]; omega
      case v6 => rw [List.map_append, List.map_map]; rfl
      case v7 =>
        rcases List.mem_append.mp hx with z | z
        · obtain ⟨one, h1, rfl⟩ := List.mem_map.mp z
          obtain ⟨z1, _⟩ := hG one h1
          rw [lessV_len (by omega)]
          omega
        · rw [List.mem_singleton.mp z]; omega
      case' v8 => decide +kernel
    case e2 => rfl
end
end W

namespace W
/-! spans of rows, steps forms -/
theorem em_def (x P : Int) : ∃ k, x % P = x + P * k := ⟨-(x / P), by rw [Int.emod_def]; grind⟩
theorem exEm {p a b : Int} (h : Em p a b) : ∃ k, a = b + p * k := by
  have h2 : (a - b) % p = 0 := Int.emod_eq_emod_iff_emod_sub_eq_zero.mp h
  obtain ⟨k, hk⟩ := Int.dvd_of_emod_eq_zero h2
  exact ⟨k, by omega⟩
theorem emEx {p a b : Int} (h : ∃ k, a = b + p * k) : Em p a b := by
  obtain ⟨k, rfl⟩ := h
  show _ % p = _ % p
  rw [Int.add_mul_emod_self_left]
theorem on_get {P : Int} {v : List Int} (h : OnW P v) {j : Nat} (hj : j < v.length) : 0 ≤ v.getD j 0 ∧ v.getD j 0 < P := h _ (getD_mem hj)
theorem emod_on {P x : Int} (h : 0 ≤ x ∧ x < P) : x % P = x := Int.emod_eq_of_lt h.1 h.2
theorem rep_get {wd j : Nat} : (List.replicate wd (0 : Int)).getD j 0 = 0 := by
  rw [List.getD_eq_getElem?_getD, List.getElem?_replicate]
  split <;> rfl
abbrev zeroV (wd : Nat) : List Int := List.replicate wd 0
section
variable {P : Int} {wd : Nat}
/-- a row of the width on the wheel -/
abbrev RowOn (P : Int) (wd : Nat) (v : List Int) : Prop := v.length = wd ∧ OnW P v
theorem lead_eq {r : List Int} {a : Nat} (h : a < r.length) (h1 : ∀ i, i < a → r.getD i 0 = 0) (h2 : r.getD a 0 ≠ 0) : lead r = a := by
  rcases lead_cases r with ⟨z, e⟩ | ⟨x, y, z⟩
  · exact absurd (z a h) h2
  · rcases Nat.lt_trichotomy (lead r) a with q | q | q
    · exact absurd (h1 _ q) z
    · exact q
    · exact absurd (y _ q) h2
theorem lead_lt {r : List Int} (h : lead r < r.length) : (∀ i, i < lead r → r.getD i 0 = 0) ∧ r.getD (lead r) 0 ≠ 0 := by
  rcases lead_cases r with ⟨z, e⟩ | ⟨x, y, z⟩
  · omega
  · exact ⟨y, z⟩
theorem lead_zero {r : List Int} (h : lead r = r.length) : r = zeroV r.length := by
  rcases lead_cases r with ⟨z, e⟩ | ⟨x, y, z⟩
  · exact ext_getD 0 (by simp) fun i hi => by rw [z i hi, rep_get]
  · omega
theorem zero_lead : lead (zeroV wd) = wd := by
  rcases lead_cases (zeroV wd) with ⟨z, e⟩ | ⟨x, y, z⟩
  · simpa using e
  · exact absurd rep_get z
variable (p0 : 1 < P)
include p0
theorem zero_on : RowOn P wd (zeroV wd) := ⟨by simp, fun y hy => by rw [(List.mem_replicate.mp hy).2]; omega⟩
theorem less_on {v r : List Int} {c : Int} (hv : v.length = wd) (hr : r.length = wd) : RowOn P wd (lessV P v r c) := ⟨by rw [lessV_len (by omega)]; exact hv, lessV_on (by omega)⟩
/-- two rows of like numbers -/
theorem vext {v u : List Int} (hv : RowOn P wd v) (hu : RowOn P wd u) (h : ∀ j, j < wd → Em P (v.getD j 0) (u.getD j 0)) : v = u :=
  ext_getD 0 (by rw [hv.1, hu.1]) fun j hj => by
    rw [hv.1] at hj
    have a := on_get hv.2 (j := j) (by rw [hv.1]; exact hj)
    have b := on_get hu.2 (j := j) (by rw [hu.1]; exact hj)
    exact (h j hj).eq a.1 a.2 b.1 b.2
omit p0 in
theorem less_em {v r : List Int} {c : Int} {j : Nat} (hv : v.length = wd) (hr : r.length = wd) (hj : j < wd) : Em P ((lessV P v r c).getD j 0) (v.getD j 0 - c * r.getD j 0) := by
  rw [lessV_get (by omega) (by omega)]
  exact Em.mod
theorem less_zero {v : List Int} {c : Int} (hv : RowOn P wd v) : lessV P v (zeroV wd) c = v := vext p0 (less_on p0 hv.1 (by simp)) hv fun j hj => by
  refine (less_em hv.1 (by simp) hj).trans (Em.of_eq ?_)
  rw [rep_get]; omega
theorem less_none {v q : List Int} (hv : RowOn P wd v) (hq : q.length = wd) : lessV P v q 0 = v := vext p0 (less_on p0 hv.1 hq) hv fun j hj => by
  refine (less_em hv.1 hq hj).trans (Em.of_eq ?_)
  omega
theorem less_self {r : List Int} (hr : RowOn P wd r) : lessV P r r 1 = zeroV wd := vext p0 (less_on p0 hr.1 hr.1) (zero_on p0) fun j hj => by
  refine (less_em hr.1 hr.1 hj).trans (Em.of_eq ?_)
  rw [rep_get]; omega
theorem less_neg {r : List Int} (hr : RowOn P wd r) : lessV P (zeroV wd) r (-1) = r := vext p0 (less_on p0 (by simp) hr.1) hr fun j hj => by
  refine (less_em (by simp) hr.1 hj).trans (Em.of_eq ?_)
  rw [rep_get]; omega
theorem less_back {v q : List Int} {c : Int} (hv : RowOn P wd v) (hq : q.length = wd) : lessV P (lessV P v q c) q (-c) = v := vext p0 (less_on p0 (less_on p0 hv.1 hq).1 hq) hv fun j hj => by
  refine (less_em (less_on p0 hv.1 hq).1 hq hj).trans (((less_em hv.1 hq hj).sub Em.refl).trans (Em.of_eq ?_))
  grind
theorem less_less {v u r : List Int} {c d : Int} (hv : v.length = wd) (hu : u.length = wd) (hr : r.length = wd) : lessV P v (lessV P u r d) c = lessV P (lessV P v u c) r (-(c * d)) :=
  vext p0 (less_on p0 hv (less_on p0 hu hr).1) (less_on p0 (less_on p0 hv hu).1 hr) fun j hj => by
    refine (less_em hv (less_on p0 hu hr).1 hj).trans ((Em.refl.sub (Em.refl.mul (less_em hu hr hj))).trans ?_)
    refine Em.trans (Em.of_eq ?_) (((less_em hv hu hj).sub Em.refl).symm.trans (less_em (less_on p0 hv hu).1 hr hj).symm)
    grind
theorem less_lin {v r o : List Int} {c : Int} {l : Nat} (hv : v.length = wd) (hr : r.length = wd) (ho : o.length = wd) (hl : l < wd) :
    lessV P (lessV P v r c) o ((lessV P v r c).getD l 0) = lessV P (lessV P v o (v.getD l 0)) (lessV P r o (r.getD l 0)) c :=
  vext p0 (less_on p0 (less_on p0 hv hr).1 ho) (less_on p0 (less_on p0 hv ho).1 (less_on p0 hr ho).1) fun j hj => by
    refine (less_em (less_on p0 hv hr).1 ho hj).trans (((less_em hv hr hj).sub ((less_em hv hr hl).mul Em.refl)).trans ?_)
    refine Em.trans (Em.of_eq ?_) (((less_em hv ho hj).sub (Em.refl.mul (less_em hr ho hj))).symm.trans (less_em (less_on p0 hv ho).1 (less_on p0 hr ho).1 hj).symm)
    grind
omit p0 in
/-- the rows that come of some -/
inductive Sp (P : Int) (wd : Nat) (S : List Int → Prop) : List Int → Prop
  | zero : Sp P wd S (zeroV wd)
  | step {v r : List Int} {c : Int} (h : Sp P wd S v) (hr : S r) : Sp P wd S (lessV P v r c)
variable {S S' : List Int → Prop}
theorem Sp.on (hS : ∀ r, S r → r.length = wd) {v : List Int} (h : Sp P wd S v) : RowOn P wd v := by
  induction h with
  | zero => exact zero_on p0
  | step h hr ih => exact less_on p0 ih.1 (hS _ hr)
theorem Sp.less (hS : ∀ r, S r → r.length = wd) {v u : List Int} {c : Int} (hv : Sp P wd S v) (hu : Sp P wd S u) : Sp P wd S (lessV P v u c) := by
  induction hu generalizing c with
  | zero => rw [less_zero p0 (hv.on p0 hS)]; exact hv
  | @step u r d h hr ih =>
    rw [less_less p0 (hv.on p0 hS).1 (h.on p0 hS).1 (hS _ hr)]
    exact .step ih hr
theorem Sp.mem {r : List Int} (h : S r) (hr : RowOn P wd r) : Sp P wd S r := by
  rw [← less_neg p0 hr]
  exact .step .zero h
theorem Sp.bind (hS : ∀ r, S r → r.length = wd) (hS' : ∀ r, S' r → r.length = wd) (h : ∀ r, S r → Sp P wd S' r) {v : List Int} (hv : Sp P wd S v) : Sp P wd S' v := by
  induction hv with
  | zero => exact .zero
  | step a b ih => exact ih.less p0 hS' (h _ b)
omit p0 in
theorem Sp.mono (h : ∀ r, S r → S' r) {v : List Int} (hv : Sp P wd S v) : Sp P wd S' v := by
  induction hv with
  | zero => exact .zero
  | step a b ih => exact .step ih (h _ b)
/-! the rest by rows -/
omit p0 in
theorem rest_cons {one row : List Int} {F : List (List Int)} : restBy P (one :: F) row = restBy P F (lessV P row one (row.getD (lead one) 0)) := rfl
theorem rest_lin : ∀ {F : List (List Int)}, RowsOn P wd F → (∀ q ∈ F, lead q < wd) → ∀ {v r : List Int} {c : Int}, v.length = wd → r.length = wd → (restBy P F (lessV P v r c)) = lessV P (restBy P F v) (restBy P F r) c
  | [], _, _, _, _, _, _, _ => rfl
  | one :: F, hF, hl, v, r, c, hv, hr => by
    have h1 := (hF one List.mem_cons_self).1
    rw [rest_cons, rest_cons, rest_cons, less_lin p0 hv hr h1 (hl one List.mem_cons_self)]
    exact rest_lin (fun q hq => hF q (List.mem_cons_of_mem _ hq)) (fun q hq => hl q (List.mem_cons_of_mem _ hq)) (less_on p0 hv h1).1 (less_on p0 hr h1).1
theorem rest_zero : ∀ {F : List (List Int)}, RowsOn P wd F → restBy P F (zeroV wd) = zeroV wd
  | [], _ => rfl
  | one :: F, hF => by
    rw [rest_cons, rep_get, less_none p0 (zero_on p0) (hF one List.mem_cons_self).1]
    exact rest_zero fun q hq => hF q (List.mem_cons_of_mem _ hq)
theorem rest_sp (hS : ∀ r, S r → r.length = wd) : ∀ {F : List (List Int)}, (∀ q ∈ F, Sp P wd S q) → ∀ {v : List Int}, Sp P wd S v → Sp P wd S (restBy P F v)
  | [], _, _, h => h
  | one :: F, hF, v, h => by
    rw [rest_cons]
    exact rest_sp hS (fun q hq => hF q (List.mem_cons_of_mem _ hq)) (h.less p0 hS (hF one List.mem_cons_self))
theorem rest_ps (hS : ∀ r, S r → r.length = wd) : ∀ {F : List (List Int)}, (∀ q ∈ F, Sp P wd S q) → ∀ {v : List Int}, RowOn P wd v → Sp P wd S (restBy P F v) → Sp P wd S v
  | [], _, _, _, h => h
  | one :: F, hF, v, hv, h => by
    rw [rest_cons] at h
    have h1 := hF one List.mem_cons_self
    have q := rest_ps hS (fun q hq => hF q (List.mem_cons_of_mem _ hq)) (less_on p0 hv.1 (h1.on p0 hS).1) h
    rw [← less_back p0 (c := v.getD (lead one) 0) hv (h1.on p0 hS).1]
    exact q.less p0 hS h1
/-- a place at which the rows have 0 -/
theorem rest_keep {j : Nat} (hj : j < wd) : ∀ {F : List (List Int)}, RowsOn P wd F → ∀ {v : List Int}, RowOn P wd v → (∀ q ∈ F, q.getD j 0 = 0) → (restBy P F v).getD j 0 = v.getD j 0
  | [], _, _, _, _ => rfl
  | one :: F, hF, v, hv, h => by
    have h1 := (hF one List.mem_cons_self).1
    rw [rest_cons, rest_keep hj (fun q hq => hF q (List.mem_cons_of_mem _ hq)) (less_on p0 hv.1 h1) fun q hq => h q (List.mem_cons_of_mem _ hq)]
    rw [lessV_get (by rw [h1, hv.1]) (by rw [hv.1]; exact hj), h one List.mem_cons_self, Int.mul_zero, Int.sub_zero]
    exact emod_on (on_get hv.2 (by rw [hv.1]; exact hj))
omit p0 in
structure Steps (P : Int) (wd : Nat) (F : List (List Int)) : Prop where
  on : RowsOn P wd F
  lt : ∀ r ∈ F, lead r < wd
  one : ∀ r ∈ F, r.getD (lead r) 0 = 1
  clr : ∀ r ∈ F, ∀ q ∈ F, lead q ≠ lead r → r.getD (lead q) 0 = 0
  inc : F.Pairwise fun a b => lead a < lead b
omit p0 in
theorem Steps.tail {one : List Int} {F : List (List Int)} (h : Steps P wd (one :: F)) : Steps P wd F :=
  ⟨fun q hq => h.on q (List.mem_cons_of_mem _ hq), fun q hq => h.lt q (List.mem_cons_of_mem _ hq), fun q hq => h.one q (List.mem_cons_of_mem _ hq), fun r hr q hq => h.clr r (List.mem_cons_of_mem _ hr) q (List.mem_cons_of_mem _ hq), (List.pairwise_cons.mp h.inc).2⟩
omit p0 in
theorem Steps.ne {one : List Int} {F : List (List Int)} (h : Steps P wd (one :: F)) : ∀ q ∈ F, lead one < lead q := (List.pairwise_cons.mp h.inc).1
omit p0 in
theorem Steps.hS {F : List (List Int)} (h : Steps P wd F) : ∀ r, r ∈ F → r.length = wd := fun r hr => (h.on r hr).1
/-- the rest has 0 at the leads -/
theorem rest_leads : ∀ {F : List (List Int)}, Steps P wd F → ∀ {v : List Int}, RowOn P wd v → ∀ q ∈ F, (restBy P F v).getD (lead q) 0 = 0
  | one :: F, h, v, hv, q, hq => by
    have h1 := h.on one List.mem_cons_self
    have hl := h.lt one List.mem_cons_self
    rw [rest_cons]
    rcases List.mem_cons.mp hq with rfl | hq
    · rw [rest_keep p0 hl h.tail.on (less_on p0 hv.1 h1.1) fun r hr => h.clr r (List.mem_cons_of_mem _ hr) q List.mem_cons_self (by have := h.ne r hr; omega)]
      rw [lessV_get (by rw [h1.1, hv.1]) (by rw [hv.1]; exact hl), h.one q List.mem_cons_self, Int.mul_one, Int.sub_self]
      rfl
    · exact rest_leads h.tail (less_on p0 hv.1 h1.1) q hq
theorem rest_mem : ∀ {F : List (List Int)}, Steps P wd F → ∀ r ∈ F, restBy P F r = zeroV wd
  | one :: F, h, r, hr => by
    have h1 := h.on one List.mem_cons_self
    rw [rest_cons]
    rcases List.mem_cons.mp hr with rfl | hr
    · rw [h.one r List.mem_cons_self, less_self p0 h1]
      exact rest_zero p0 h.tail.on
    · rw [h.clr r (List.mem_cons_of_mem _ hr) one List.mem_cons_self (by have := h.ne r hr; omega), less_none p0 (h.tail.on r hr) h1.1]
      exact rest_mem h.tail r hr
/-- what comes of the rows is left as nothing -/
theorem rest_null {F : List (List Int)} (h : Steps P wd F) {v : List Int} (hv : Sp P wd (· ∈ F) v) : restBy P F v = zeroV wd := by
  induction hv with
  | zero => exact rest_zero p0 h.on
  | step a b ih => rw [rest_lin p0 h.on h.lt (a.on p0 h.hS).1 (h.hS _ b), ih, rest_mem p0 h _ b]; exact less_zero p0 (zero_on p0)
/-- a place that no row with a number at its lead touches -/
theorem rest_at {a : Nat} (ha : a < wd) : ∀ {F : List (List Int)}, Steps P wd F → ∀ {v : List Int}, RowOn P wd v → (∀ q ∈ F, v.getD (lead q) 0 = 0 ∨ q.getD a 0 = 0) → (restBy P F v).getD a 0 = v.getD a 0
  | [], _, _, _, _ => rfl
  | one :: F, h, v, hv, hz => by
    have h1 := h.on one List.mem_cons_self
    rw [rest_cons]
    have e : ∀ j, j < wd → (v.getD (lead one) 0 = 0 ∨ one.getD j 0 = 0) → (lessV P v one (v.getD (lead one) 0)).getD j 0 = v.getD j 0 := fun j hj z => by
      rw [lessV_get (by rw [h1.1, hv.1]) (by rw [hv.1]; exact hj)]
      have e0 : v.getD (lead one) 0 * one.getD j 0 = 0 := by
        rcases z with z | z
        · rw [z, Int.zero_mul]
        · rw [z, Int.mul_zero]
      rw [e0, Int.sub_zero]
      exact emod_on (on_get hv.2 (by rw [hv.1]; exact hj))
    rw [rest_at ha h.tail (less_on p0 hv.1 h1.1) fun q hq => ?_]
    · exact e a ha (hz one List.mem_cons_self)
    · rw [e _ (h.tail.lt q hq) (.inr (h.clr one List.mem_cons_self q (List.mem_cons_of_mem _ hq) (by have := h.ne q hq; omega)))]
      exact hz q (List.mem_cons_of_mem _ hq)
/-- the lead of what comes of rows in steps form is one of theirs -/
theorem lead_in {F : List (List Int)} (h : Steps P wd F) {v : List Int} (hv : Sp P wd (· ∈ F) v) (hn : lead v < wd) : ∃ q ∈ F, lead q = lead v := by
  refine Classical.byContradiction fun no => ?_
  have on := hv.on p0 h.hS
  obtain ⟨b, c⟩ := lead_lt (by rw [on.1]; exact hn)
  have e := rest_at p0 hn h on fun q hq => by
    rcases Nat.lt_trichotomy (lead q) (lead v) with z | z | z
    · exact .inl (b _ z)
    · exact absurd ⟨q, hq, z⟩ no
    · exact .inr ((lead_lt (by rw [(h.on q hq).1]; exact h.lt q hq)).1 _ z)
  rw [rest_null p0 h hv, rep_get] at e
  exact c e.symm
theorem null_of {F : List (List Int)} (h : Steps P wd F) {v : List Int} (hv : Sp P wd (· ∈ F) v) (hz : ∀ q ∈ F, v.getD (lead q) 0 = 0) : v = zeroV wd := by
  have on := hv.on p0 h.hS
  by_cases hn : lead v < wd
  · obtain ⟨q, hq, e⟩ := lead_in p0 h hv hn
    have := (lead_lt (r := v) (by rw [on.1]; exact hn)).2
    rw [← e] at this
    exact absurd (hz q hq) this
  · have := lead_le v
    rw [lead_zero (r := v) (by omega), on.1]
omit p0 in
theorem inc_ext : ∀ {F G : List (List Int)}, F.Pairwise (fun a b => lead a < lead b) → G.Pairwise (fun a b => lead a < lead b) → (∀ x, x ∈ F ↔ x ∈ G) → F = G
  | [], [], _, _, _ => rfl
  | [], g :: G, _, _, h => by have := (h g).mpr List.mem_cons_self; simp at this
  | f :: F, [], _, _, h => by have := (h f).mp List.mem_cons_self; simp at this
  | f :: F, g :: G, hF, hG, h => by
    obtain ⟨f1, f2⟩ := List.pairwise_cons.mp hF
    obtain ⟨g1, g2⟩ := List.pairwise_cons.mp hG
    have e : f = g := by
      rcases List.mem_cons.mp ((h f).mp List.mem_cons_self) with z | z
      · exact z
      · rcases List.mem_cons.mp ((h g).mpr List.mem_cons_self) with y | y
        · exact y.symm
        · have := f1 g y
          have := g1 f z
          omega
    subst e
    rw [inc_ext f2 g2 fun x => ?_]
    constructor
    · intro hx
      rcases List.mem_cons.mp ((h x).mp (List.mem_cons_of_mem _ hx)) with z | z
      · subst z; have := f1 x hx; omega
      · exact z
    · intro hx
      rcases List.mem_cons.mp ((h x).mpr (List.mem_cons_of_mem _ hx)) with z | z
      · subst z; have := g1 x hx; omega
      · exact z
theorem steps_sub {F G : List (List Int)} (hF : Steps P wd F) (hG : Steps P wd G) (h1 : ∀ g ∈ G, Sp P wd (· ∈ F) g) (h2 : ∀ f ∈ F, Sp P wd (· ∈ G) f) : ∀ g ∈ G, g ∈ F := fun g hg => by
  obtain ⟨f, hf, e⟩ := lead_in p0 hF (h1 g hg) (hG.lt g hg)
  have of := hF.on f hf
  have og := hG.on g hg
  have hl := hG.lt g hg
  have z := null_of p0 hF ((h1 g hg).less p0 hF.hS (Sp.mem p0 (S := (· ∈ F)) hf of) (c := 1)) fun q hq => by
    have hq1 := hF.lt q hq
    rw [lessV_get (by rw [of.1, og.1]) (by rw [og.1]; exact hq1), Int.one_mul]
    by_cases hqf : lead q = lead f
    · rw [hqf, hF.one f hf, e, hG.one g hg]
      rfl
    · obtain ⟨g', hg', e'⟩ := lead_in p0 hG (h2 q hq) hq1
      rw [hF.clr f hf q hq hqf, ← e', hG.clr g hg g' hg' (by omega)]
      rfl
  have e2 := less_back p0 (c := 1) og of.1
  rw [z] at e2
  have e3 := less_neg p0 of
  rw [e3] at e2
  rw [← e2]
  exact hf
/-- rows in steps form are told by what comes of them -/
theorem steps_uniq {F G : List (List Int)} (hF : Steps P wd F) (hG : Steps P wd G) (h1 : ∀ g ∈ G, Sp P wd (· ∈ F) g) (h2 : ∀ f ∈ F, Sp P wd (· ∈ G) f) : F = G :=
  inc_ext hF.inc hG.inc fun x => ⟨steps_sub p0 hG hF h2 h1 x, steps_sub p0 hF hG h1 h2 x⟩
end
end W

namespace W
section
variable {P : Int} {wd : Nat} (hp : Prm P)
include hp
theorem Prm.one : 1 < P := by have := hp.lo; omega
/-- the new row: its lead is 1 -/
theorem newRow_ok {r : List Int} (hr : RowOn P wd r) (hl : lead r < wd) : RowOn P wd (newRow P r) ∧ lead (newRow P r) = lead r ∧ (newRow P r).getD (lead r) 0 = 1 ∧ newRow P r = lessV P (zeroV wd) r (-(backN P (r.getD (lead r) 0))) ∧ r = lessV P (zeroV wd) (newRow P r) (-(r.getD (lead r) 0)) := by
  have p1 := hp.one
  have on : RowOn P wd (newRow P r) := by
    have z := newRow_on (P := P) (show 0 < P by omega) (r := r)
    exact ⟨z.1.trans hr.1, z.2⟩
  obtain ⟨z1, z2⟩ := lead_lt (r := r) (by rw [hr.1]; exact hl)
  have hm : r.getD (lead r) 0 % P ≠ 0 := by
    rw [emod_on (on_get hr.2 (by rw [hr.1]; exact hl))]
    exact z2
  obtain ⟨b0, b1, b2⟩ := back_ok hp hm
  have get : ∀ j, j < wd → (newRow P r).getD j 0 = (backN P (r.getD (lead r) 0) * r.getD j 0) % P := fun j hj => by
    unfold newRow
    rw [getD_map _ 0 0 (by rw [hr.1]; exact hj)]
  have l1 : (newRow P r).getD (lead r) 0 = 1 := by rw [get _ hl]; exact b2
  refine ⟨on, lead_eq (by rw [on.1]; exact hl) (fun i hi => ?_) (by rw [l1]; omega), l1, ?_, ?_⟩
  · rw [get i (by omega), z1 i hi, Int.mul_zero]
    rfl
  · refine vext p1 on (less_on p1 (by simp) hr.1) fun j hj => ?_
    rw [get j hj]
    refine Em.mod.trans (Em.trans (Em.of_eq ?_) (less_em (by simp) hr.1 hj).symm)
    rw [rep_get]
    grind
  · refine vext p1 hr (less_on p1 (by simp) on.1) fun j hj => ?_
    refine Em.trans ?_ (less_em (by simp) on.1 hj).symm
    rw [get j hj, rep_get]
    obtain ⟨k, hk⟩ := exEm (p := P) (a := backN P (r.getD (lead r) 0) * r.getD (lead r) 0) (b := 1) (by show _ % P = 1 % P; rw [b2, Int.emod_eq_of_lt (by omega) p1])
    obtain ⟨m, hm⟩ := em_def (backN P (r.getD (lead r) 0) * r.getD j 0) P
    rw [hm]
    generalize backN P (r.getD (lead r) 0) = c at *
    generalize r.getD (lead r) 0 = x at *
    generalize r.getD j 0 = y at *
    exact emEx ⟨-(k * y) - x * m, by grind⟩
theorem less_lead {one nr : List Int} {a : Nat} (ho : RowOn P wd one) (hn : RowOn P wd nr) (hl : lead one < wd) (h1 : one.getD (lead one) 0 = 1) (ha : lead nr = a) (ha2 : a < wd) (hne : a ≠ lead one) (hz : nr.getD (lead one) 0 = 0) :
    lead (lessV P one nr (one.getD a 0)) = lead one ∧ (lessV P one nr (one.getD a 0)).getD (lead one) 0 = 1 := by
  have p1 := hp.one
  have on := less_on p1 (c := one.getD a 0) ho.1 hn.1
  obtain ⟨z1, z2⟩ := lead_lt (r := one) (by rw [ho.1]; exact hl)
  have get : ∀ j, j < wd → (lessV P one nr (one.getD a 0)).getD j 0 = (one.getD j 0 - one.getD a 0 * nr.getD j 0) % P := fun j hj => lessV_get (by rw [ho.1, hn.1]) (by rw [ho.1]; exact hj)
  have l1 : (lessV P one nr (one.getD a 0)).getD (lead one) 0 = 1 := by
    rw [get _ hl, hz, Int.mul_zero, Int.sub_zero, h1]
    exact Int.emod_eq_of_lt (by omega) p1
  refine ⟨lead_eq (by rw [on.1]; exact hl) (fun i hi => ?_) (by rw [l1]; omega), l1⟩
  rw [get i (by omega), z1 i hi]
  have e : one.getD a 0 * nr.getD i 0 = 0 := by
    by_cases h : one.getD a 0 = 0
    · rw [h, Int.zero_mul]
    · have : lead one < a := by
        rcases Nat.lt_trichotomy a (lead one) with q | q | q
        · exact absurd (z1 _ q) h
        · exact absurd q hne
        · exact q
      rw [(lead_lt (r := nr) (by rw [hn.1, ha]; exact ha2)).1 i (by omega), Int.mul_zero]
  rw [e]
  rfl
theorem inc_merge {F : List (List Int)} {X : List (List Int)} (hX : X.map lead = F.map lead) (hi : F.Pairwise fun a b => lead a < lead b) {r : List Int} (hr : ∀ q ∈ F, lead q ≠ lead r) :
    ((X ++ [r]).mergeSort fun a b => decide ((lead a : Int) ≤ (lead b : Int))).Pairwise fun a b => lead a < lead b := by
  have hs : ((X ++ [r]).mergeSort fun a b => decide ((lead a : Int) ≤ (lead b : Int))).Pairwise (fun a b => decide ((lead a : Int) ≤ (lead b : Int)) = true) :=
    List.pairwise_mergeSort (fun a b c h1 h2 => by simp at *; omega) (fun a b => by simp; omega) _
  have hn : (X ++ [r]).Pairwise fun a b => lead a ≠ lead b := by
    rw [List.pairwise_append]
    refine ⟨?_, List.pairwise_singleton _ _, fun a ha b hb => ?_⟩
    · have : (X.map lead).Pairwise (· ≠ ·) := by
        rw [hX, List.pairwise_map]
        exact hi.imp fun h => by omega
      rwa [List.pairwise_map] at this
    · rw [List.mem_singleton.mp hb]
      have : lead a ∈ F.map lead := by rw [← hX]; exact List.mem_map.mpr ⟨a, ha, rfl⟩
      obtain ⟨q, hq, e⟩ := List.mem_map.mp this
      rw [← e]
      exact hr q hq
  have hn2 : ((X ++ [r]).mergeSort fun a b => decide ((lead a : Int) ≤ (lead b : Int))).Pairwise fun a b => lead a ≠ lead b :=
    ((List.mergeSort_perm _ _).pairwise_iff fun h => Ne.symm h).mpr hn
  exact hs.imp₂ (fun a b h1 h2 => by
    have := of_decide_eq_true h1
    omega) hn2
theorem addRow_steps {F : List (List Int)} {r : List Int} (h : Steps P wd F) (hr : RowOn P wd r) (hl : lead r < wd) (hz : ∀ q ∈ F, r.getD (lead q) 0 = 0) : Steps P wd (addRow P F r) ∧ (∀ q ∈ addRow P F r, Sp P wd (fun x => x ∈ F ∨ x = r) q) ∧ (∀ q ∈ F, Sp P wd (· ∈ addRow P F r) q) ∧ Sp P wd (· ∈ addRow P F r) r := by
  have p1 := hp.one
  obtain ⟨n1, n2, n3, n4, n5⟩ := newRow_ok hp hr hl
  have hne : ∀ q ∈ F, lead r ≠ lead q := fun q hq e => (lead_lt (r := r) (by rw [hr.1]; exact hl)).2 (by rw [e]; exact hz q hq)
  have nz : ∀ q ∈ F, (newRow P r).getD (lead q) 0 = 0 := fun q hq => by
    unfold newRow
    rw [getD_map _ 0 0 (by rw [hr.1]; exact h.lt q hq), hz q hq, Int.mul_zero]
    rfl
  have mem : ∀ q, q ∈ addRow P F r ↔ (∃ one ∈ F, q = lessV P one (newRow P r) (one.getD (lead r) 0)) ∨ q = newRow P r := fun q => by
    rw [addRow, List.mem_mergeSort, List.mem_append, List.mem_singleton, List.mem_map]
    constructor
    · rintro (⟨a, b, c⟩ | z)
      · exact .inl ⟨a, b, c.symm⟩
      · exact .inr z
    · rintro (⟨a, b, c⟩ | z)
      · exact .inl ⟨a, b, c.symm⟩
      · exact .inr z
  have lo : ∀ one ∈ F, lead (lessV P one (newRow P r) (one.getD (lead r) 0)) = lead one ∧ (lessV P one (newRow P r) (one.getD (lead r) 0)).getD (lead one) 0 = 1 := fun one ho =>
    less_lead hp (h.on one ho) n1 (h.lt one ho) (h.one one ho) n2 hl (hne one ho) (nz one ho)
  have on : RowsOn P wd (addRow P F r) := addRow_on (by omega) h.on hr.1
  have g1 : ∀ one ∈ F, ∀ j, j < wd → (lessV P one (newRow P r) (one.getD (lead r) 0)).getD j 0 = (one.getD j 0 - one.getD (lead r) 0 * (newRow P r).getD j 0) % P := fun one ho j hj => lessV_get (by rw [(h.on one ho).1, n1.1]) (by rw [(h.on one ho).1]; exact hj)
  refine ⟨⟨on, fun q hq => ?_, fun q hq => ?_, fun x hx q hq => ?_, ?_⟩, fun q hq => ?_, fun q hq => ?_, ?_⟩
  · rcases (mem q).mp hq with ⟨one, ho, rfl⟩ | rfl
    · rw [(lo one ho).1]; exact h.lt one ho
    · rw [n2]; exact hl
  · rcases (mem q).mp hq with ⟨one, ho, rfl⟩ | rfl
    · rw [(lo one ho).1]; exact (lo one ho).2
    · rw [n2]; exact n3
  · rcases (mem x).mp hx with ⟨one, ho, rfl⟩ | rfl <;> rcases (mem q).mp hq with ⟨two, ht, rfl⟩ | rfl
    · rw [(lo one ho).1, (lo two ht).1]
      intro hlq
      rw [g1 one ho _ (h.lt two ht), h.clr one ho two ht hlq, nz two ht, Int.mul_zero]
      rfl
    · intro _
      rw [n2, g1 one ho _ hl, n3, Int.mul_one, Int.sub_self]
      rfl
    · intro _
      rw [(lo two ht).1]
      exact nz two ht
    · intro hlq
      exact absurd rfl hlq
  · unfold addRow
    refine inc_merge hp (F := F) ?_ h.inc fun q hq => by rw [n2]; exact (hne q hq).symm
    rw [List.map_map]
    exact List.map_congr_left fun one ho => (lo one ho).1
  · have hS : ∀ x, (x ∈ F ∨ x = r) → x.length = wd := fun x hx => by
      rcases hx with z | z
      · exact (h.on x z).1
      · rw [z]; exact hr.1
    have sn : Sp P wd (fun x => x ∈ F ∨ x = r) (newRow P r) := by rw [n4]; exact .step .zero (.inr rfl)
    rcases (mem q).mp hq with ⟨one, ho, rfl⟩ | rfl
    · exact (Sp.mem p1 (S := fun x => x ∈ F ∨ x = r) (.inl ho) (h.on one ho)).less p1 hS sn
    · exact sn
  · have e := less_back p1 (c := q.getD (lead r) 0) (h.on q hq) n1.1
    rw [← e]
    exact .step (Sp.mem p1 (S := (· ∈ addRow P F r)) ((mem _).mpr (.inl ⟨q, hq, rfl⟩)) (less_on p1 (h.on q hq).1 n1.1)) ((mem _).mpr (.inr rfl))
  · have e : Sp P wd (· ∈ addRow P F r) (lessV P (zeroV wd) (newRow P r) (-(r.getD (lead r) 0))) := .step .zero ((mem _).mpr (.inr rfl))
    rwa [← n5] at e
theorem withRow_steps {F : List (List Int)} {row : List Int} (h : Steps P wd F) (hr : RowOn P wd row) : Steps P wd (withRow P F row) ∧ (∀ q ∈ withRow P F row, Sp P wd (fun x => x ∈ F ∨ x = row) q) ∧ (∀ q ∈ F, Sp P wd (· ∈ withRow P F row) q) ∧ Sp P wd (· ∈ withRow P F row) row := by
  have p1 := hp.one
  have ro := rest_on (P := P) (show 0 < P by omega) h.on hr.1 hr.2
  have hS : ∀ x, (x ∈ F ∨ x = row) → x.length = wd := fun x hx => by
    rcases hx with z | z
    · exact (h.on x z).1
    · rw [z]; exact hr.1
  unfold withRow
  split
  · next e =>
    refine ⟨h, fun q hq => Sp.mem p1 (S := fun x => x ∈ F ∨ x = row) (.inl hq) (h.on q hq), fun q hq => Sp.mem p1 (S := (· ∈ F)) hq (h.on q hq), ?_⟩
    refine rest_ps p1 h.hS (fun q hq => Sp.mem p1 (S := (· ∈ F)) hq (h.on q hq)) hr ?_
    rw [lead_zero e, ro.1]
    exact .zero
  · next e =>
    have hl : lead (restBy P F row) < wd := by have := lead_le (restBy P F row); omega
    obtain ⟨a, b, c, d⟩ := addRow_steps hp h ro hl (rest_leads p1 h hr)
    refine ⟨a, fun q hq => (b q hq).bind p1 (fun x hx => ?_) hS fun x hx => ?_, c, rest_ps p1 a.hS c hr d⟩
    · rcases hx with z | z
      · exact (h.on x z).1
      · rw [z]; exact ro.1
    · rcases hx with z | z
      · exact Sp.mem p1 (S := fun x => x ∈ F ∨ x = row) (.inl z) (h.on x z)
      · rw [z]
        exact rest_sp p1 hS (fun q hq => Sp.mem p1 (S := fun x => x ∈ F ∨ x = row) (.inl hq) (h.on q hq)) (Sp.mem p1 (S := fun x => x ∈ F ∨ x = row) (.inr rfl) hr)
omit hp in
theorem steps_nil : Steps P wd [] := ⟨rows_nil, (fun _ h => nomatch h), (fun _ h => nomatch h), (fun _ h => nomatch h), .nil⟩
theorem fold_steps : ∀ {rows F : List (List Int)}, Steps P wd F → RowsOn P wd rows → Steps P wd (rows.foldl (withRow P) F) ∧ (∀ q ∈ rows.foldl (withRow P) F, Sp P wd (fun x => x ∈ F ∨ x ∈ rows) q) ∧ (∀ q, q ∈ F ∨ q ∈ rows → Sp P wd (· ∈ rows.foldl (withRow P) F) q)
  | [], F, h, _ => by
    have p1 := hp.one
    refine ⟨h, fun q hq => Sp.mem p1 (S := fun x => x ∈ F ∨ x ∈ []) (.inl hq) (h.on q hq), fun q hq => ?_⟩
    rcases hq with z | z
    · exact Sp.mem p1 (S := (· ∈ F)) z (h.on q z)
    · cases z
  | r :: rows, F, h, hr => by
    have p1 := hp.one
    have h1 := hr r List.mem_cons_self
    obtain ⟨a, b, c, d⟩ := withRow_steps hp h h1
    obtain ⟨e, f, g⟩ := fold_steps (rows := rows) a fun q hq => hr q (List.mem_cons_of_mem _ hq)
    have len : ∀ x, (x ∈ F ∨ x ∈ r :: rows) → x.length = wd := fun x hx => by
      rcases hx with z | z
      · exact (h.on x z).1
      · exact (hr x z).1
    have len2 : ∀ x, (x ∈ withRow P F r ∨ x ∈ rows) → x.length = wd := fun x hx => by
      rcases hx with z | z
      · exact (a.on x z).1
      · exact (hr x (List.mem_cons_of_mem _ z)).1
    refine ⟨e, fun q hq => (f q hq).bind p1 len2 len fun x hx => ?_, fun q hq => ?_⟩
    · rcases hx with z | z
      · refine (b x z).mono fun y hy => ?_
        rcases hy with w | w
        · exact .inl w
        · exact .inr (by rw [w]; exact List.mem_cons_self)
      · exact Sp.mem p1 (S := fun x => x ∈ F ∨ x ∈ r :: rows) (.inr (List.mem_cons_of_mem _ z)) (hr x (List.mem_cons_of_mem _ z))
    · have up : ∀ {y}, Sp P wd (· ∈ withRow P F r) y → Sp P wd (· ∈ rows.foldl (withRow P) (withRow P F r)) y := fun hy => hy.bind p1 a.hS e.hS fun x hx => g x (.inl hx)
      rcases hq with z | z
      · exact up (c q z)
      · rcases List.mem_cons.mp z with z | z
        · rw [z]; exact up d
        · exact g q (.inr z)
/-- the steps form: its rows are in steps form, and come of the handed ones, and these of them -/
theorem stepsForm_ok {rows : List (List Int)} (hr : RowsOn P wd rows) : Steps P wd (stepsForm P rows) ∧ (∀ q ∈ stepsForm P rows, Sp P wd (· ∈ rows) q) ∧ (∀ q ∈ rows, Sp P wd (· ∈ stepsForm P rows) q) := by
  obtain ⟨a, b, c⟩ := fold_steps hp (rows := rows) (F := []) steps_nil hr
  refine ⟨a, fun q hq => (b q hq).mono fun x hx => ?_, fun q hq => c q (.inr hq)⟩
  rcases hx with z | z
  · cases z
  · exact z
theorem steps_take {rows : List (List Int)} (hr : RowsOn P wd rows) (k : Nat) : Steps P wd (stepsForm P (rows.take k)) := (stepsForm_ok hp fun q hq => hr q (List.mem_of_mem_take hq)).1
/-- rows in steps form, in any order, have themselves as steps form -/
theorem steps_self {F G : List (List Int)} (h : Steps P wd F) (hG : ∀ x, x ∈ G ↔ x ∈ F) : stepsForm P G = F := by
  have p1 := hp.one
  obtain ⟨a, b, c⟩ := stepsForm_ok hp (rows := G) fun q hq => h.on q ((hG q).mp hq)
  exact (steps_uniq p1 h a (fun g hg => (b g hg).mono fun x hx => (hG x).mp hx) fun f hf => c f ((hG f).mpr hf)).symm
end
end W

namespace W
open PySem PySem.Spec PyProof.Rows L2 LR
def eRow (n k : Nat) : List Int := (List.range n).map fun i : Nat => if decide ((i : Int) = (k : Int)) then (1 : Int) else 0
def extRow (rows : List (List Int)) (k : Nat) : List Int := rows.getD k [] ++ eRow rows.length k
def extRows (rows : List (List Int)) : List (List Int) := (List.range rows.length).map (extRow rows)
def withWeights (P : Int) (rows : List (List Int)) : List (List Int) := stepsForm P (extRows rows)
def idleSums (P : Int) (wd : Nat) (rows : List (List Int)) : List (List Int) := ((withWeights P rows).filter fun r => decide (wd ≤ lead r)).map (List.drop wd)
/-- the row that shuts off, of rows in steps form and a rest -/
def shutRow (P : Int) (F : List (List Int)) (left : List Int) : List Int :=
  F.foldl (fun r one => r.set (lead one) ((0 - backN P (left.getD (lead left) 0) * one.getD (lead left) 0) % P)) ((zeroV left.length).set (lead left) (backN P (left.getD (lead left) 0)))
def shutOff (P : Int) (rows : List (List Int)) (goal : List Int) : List Int := shutRow P (stepsForm P rows) (restBy P (stepsForm P rows) goal)
theorem eRow_len {n k : Nat} : (eRow n k).length = n := by simp [eRow]
theorem eRow_get {n k i : Nat} (hi : i < n) : (eRow n k).getD i 0 = if i = k then 1 else 0 := by
  unfold eRow
  rw [getD_map _ 0 0 (by simpa using hi)]
  have e : (List.range n).getD i 0 = i := by rw [List.getD_eq_getElem?_getD, List.getElem?_range hi]; rfl
  rw [e]
  by_cases h : i = k
  · rw [if_pos h, if_pos (decide_eq_true (by omega))]
  · rw [if_neg h, if_neg (by simpa using fun z : (i : Int) = k => h (by omega))]
theorem eRow_on {P : Int} (p1 : 1 < P) {n k : Nat} : OnW P (eRow n k) := fun y hy => by
  obtain ⟨z, _, rfl⟩ := List.mem_map.mp hy
  split <;> omega
theorem extRow_on {P : Int} {wd : Nat} (p1 : 1 < P) {rows : List (List Int)} (h : RowsOn P wd rows) {k : Nat} (hk : k < rows.length) : RowOn P (wd + rows.length) (extRow rows k) := by
  obtain ⟨a, b⟩ := h _ (getD_mem (z := []) hk)
  refine ⟨by unfold extRow; rw [List.length_append, a, eRow_len], fun y hy => ?_⟩
  rcases List.mem_append.mp hy with z | z
  · exact b y z
  · exact eRow_on p1 y z
theorem extRows_on {P : Int} {wd : Nat} (p1 : 1 < P) {rows : List (List Int)} (h : RowsOn P wd rows) : RowsOn P (wd + rows.length) (extRows rows) := fun r hr => by
  obtain ⟨k, hk, rfl⟩ := List.mem_map.mp hr
  exact extRow_on p1 h (List.mem_range.mp hk)
theorem extRows_len (rows : List (List Int)) : (extRows rows).length = rows.length := by simp [extRows]
section
variable {P : Program} {w : World} {K : PySem.W.Frag} {mg : Str → Option Value} {base : Heap}
inductive rSteps : List PyData → Res → Prop
  | mk {p : Int} {wd : Nat} {rows : List (List Int)} (hp : Prm p) (hr : RowsOn p wd rows) (h : wd ≤ 1000) (hz : rows.length ≤ 800) : rSteps [.int p, lT rows] (.ok (.dat (lT (stepsForm p rows))))
  | own {p : Int} {wd : Nat} {rows : List (List Int)} {r : List Int} (hp : Prm p) (hr : RowsOn p wd (rows ++ [r])) (h : wd ≤ 1000) (hz : rows.length ≤ 799) (hl : lead (restBy p (stepsForm p rows) r) ≠ wd) : rSteps [.int p, lT (rows ++ [r])] (.ok (.own (.lst ((stepsForm p (rows ++ [r])).map tI))))
local macro_rules | `(tactic| wtm_at "nm") => `(tactic| first
  | ((with_reducible show Ev _ _ (.Name "P" _) _); exact nmF (by assumption) 0 (by rfl) rfl (by decide +kernel) (by decide +kernel) (by decide +kernel))
  | ((with_reducible show Ev _ _ (.Name "rows" _) _); exact nmF (by assumption) 1 (by rfl) rfl (by decide +kernel) (by decide +kernel) (by decide +kernel))
  | ((with_reducible show Ev _ _ (.Name "found" _) _); exact nmF (by assumption) 2 (by rfl) rfl (by decide +kernel) (by decide +kernel) (by decide +kernel))
  | ((with_reducible show Ev _ _ (.Name "row" _) _); exact nmF (by assumption) 3 (by rfl) rfl (by decide +kernel) (by decide +kernel) (by decide +kernel)))
local macro_rules | `(tactic| wtm_at "own") => `(tactic| first
  | ((with_reducible show EvS _ _ (.Name "P" _) _ _); exact ownF (by assumption) 0 (by rfl) rfl (by decide +kernel) (by decide +kernel) (by decide +kernel))
  | ((with_reducible show EvS _ _ (.Name "rows" _) _ _); exact ownF (by assumption) 1 (by rfl) rfl (by decide +kernel) (by decide +kernel) (by decide +kernel))
  | ((with_reducible show EvS _ _ (.Name "found" _) _ _); exact ownF (by assumption) 2 (by rfl) rfl (by decide +kernel) (by decide +kernel) (by decide +kernel))
  | ((with_reducible show EvS _ _ (.Name "row" _) _ _); exact ownF (by assumption) 3 (by rfl) rfl (by decide +kernel) (by decide +kernel) (by decide +kernel)))
local macro_rules | `(tactic| wtm_at "ownl") => `(tactic| first
  | ((with_reducible show EvL _ _ (.Name "P" _) _); exact ownlF (by assumption) 0 (by rfl) rfl (by decide +kernel) (by decide +kernel) (by decide +kernel))
  | ((with_reducible show EvL _ _ (.Name "rows" _) _); exact ownlF (by assumption) 1 (by rfl) rfl (by decide +kernel) (by decide +kernel) (by decide +kernel))
  | ((with_reducible show EvL _ _ (.Name "found" _) _); exact ownlF (by assumption) 2 (by rfl) rfl (by decide +kernel) (by decide +kernel) (by decide +kernel))
  | ((with_reducible show EvL _ _ (.Name "row" _) _); exact ownlF (by assumption) 3 (by rfl) rfl (by decide +kernel) (by decide +kernel) (by decide +kernel)))
local macro_rules | `(tactic| wtm_at "set") => `(tactic| first
  | ((with_reducible show S1 _ _ (.Assign [.Name "P" _] _ _) _); refine' setF ?st1 ?st2 0 ?st3 ?st4 ?ste ?st5; (case' st1 => assumption); (case' st2 => assumption); (case' st3 => rfl); (case' st4 => decide +kernel); (case' ste => wtm_at "ev"); (case' st5 => rfl))
  | ((with_reducible show S1 _ _ (.Assign [.Name "rows" _] _ _) _); refine' setF ?st1 ?st2 1 ?st3 ?st4 ?ste ?st5; (case' st1 => assumption); (case' st2 => assumption); (case' st3 => rfl); (case' st4 => decide +kernel); (case' ste => wtm_at "ev"); (case' st5 => rfl))
  | ((with_reducible show S1 _ _ (.Assign [.Name "found" _] _ _) _); refine' setF ?st1 ?st2 2 ?st3 ?st4 ?ste ?st5; (case' st1 => assumption); (case' st2 => assumption); (case' st3 => rfl); (case' st4 => decide +kernel); (case' ste => wtm_at "ev"); (case' st5 => rfl))
  | ((with_reducible show S1 _ _ (.Assign [.Name "row" _] _ _) _); refine' setF ?st1 ?st2 3 ?st3 ?st4 ?ste ?st5; (case' st1 => assumption); (case' st2 => assumption); (case' st3 => rfl); (case' st4 => decide +kernel); (case' ste => wtm_at "ev"); (case' st5 => rfl)))
local macro_rules | `(tactic| wtm_at "app") => `(tactic| first
  | ((with_reducible show S1 _ _ (.Expr (.Call (.Attribute (.Name "P" _) _ _) _ _ _) _) _); refine' appF ?ap1 0 ?ap2 ?ap3 ?ap4 ?ape ?aps ?ap5 ?ap6; (case' ap1 => assumption); (case' ap2 => rfl); (case' ap3 => rfl); (case' ap4 => decide +kernel); (case' ape => wtm_at "ev"); (case' aps => try (wtm_at "sz")); (case' ap5 => decide +kernel); (case' ap6 => decide +kernel))
  | ((with_reducible show S1 _ _ (.Expr (.Call (.Attribute (.Name "rows" _) _ _) _ _ _) _) _); refine' appF ?ap1 1 ?ap2 ?ap3 ?ap4 ?ape ?aps ?ap5 ?ap6; (case' ap1 => assumption); (case' ap2 => rfl); (case' ap3 => rfl); (case' ap4 => decide +kernel); (case' ape => wtm_at "ev"); (case' aps => try (wtm_at "sz")); (case' ap5 => decide +kernel); (case' ap6 => decide +kernel))
  | ((with_reducible show S1 _ _ (.Expr (.Call (.Attribute (.Name "found" _) _ _) _ _ _) _) _); refine' appF ?ap1 2 ?ap2 ?ap3 ?ap4 ?ape ?aps ?ap5 ?ap6; (case' ap1 => assumption); (case' ap2 => rfl); (case' ap3 => rfl); (case' ap4 => decide +kernel); (case' ape => wtm_at "ev"); (case' aps => try (wtm_at "sz")); (case' ap5 => decide +kernel); (case' ap6 => decide +kernel))
  | ((with_reducible show S1 _ _ (.Expr (.Call (.Attribute (.Name "row" _) _ _) _ _ _) _) _); refine' appF ?ap1 3 ?ap2 ?ap3 ?ap4 ?ape ?aps ?ap5 ?ap6; (case' ap1 => assumption); (case' ap2 => rfl); (case' ap3 => rfl); (case' ap4 => decide +kernel); (case' ape => wtm_at "ev"); (case' aps => try (wtm_at "sz")); (case' ap5 => decide +kernel); (case' ap6 => decide +kernel)))
local macro_rules | `(tactic| wtm_at "put") => `(tactic| first
  | ((with_reducible show S1 _ _ (.Assign [.Subscript (.Name "P" _) _ _] _ _) _); refine' putF ?pu1 0 ?pu2 ?pu3 ?pu4 ?pue ?pui ?pu5 ?pu6 ?pu7 ?pu8; (case' pu1 => assumption); (case' pu2 => rfl); (case' pu3 => rfl); (case' pu4 => decide +kernel); (case' pue => wtm_at "ev"); (case' pui => wtm_at "ev"); (case' pu5 => try (wtm_at "sd")); (case' pu6 => try (wtm_at "sd")); (case' pu7 => decide +kernel); (case' pu8 => decide +kernel))
  | ((with_reducible show S1 _ _ (.Assign [.Subscript (.Name "rows" _) _ _] _ _) _); refine' putF ?pu1 1 ?pu2 ?pu3 ?pu4 ?pue ?pui ?pu5 ?pu6 ?pu7 ?pu8; (case' pu1 => assumption); (case' pu2 => rfl); (case' pu3 => rfl); (case' pu4 => decide +kernel); (case' pue => wtm_at "ev"); (case' pui => wtm_at "ev"); (case' pu5 => try (wtm_at "sd")); (case' pu6 => try (wtm_at "sd")); (case' pu7 => decide +kernel); (case' pu8 => decide +kernel))
  | ((with_reducible show S1 _ _ (.Assign [.Subscript (.Name "found" _) _ _] _ _) _); refine' putF ?pu1 2 ?pu2 ?pu3 ?pu4 ?pue ?pui ?pu5 ?pu6 ?pu7 ?pu8; (case' pu1 => assumption); (case' pu2 => rfl); (case' pu3 => rfl); (case' pu4 => decide +kernel); (case' pue => wtm_at "ev"); (case' pui => wtm_at "ev"); (case' pu5 => try (wtm_at "sd")); (case' pu6 => try (wtm_at "sd")); (case' pu7 => decide +kernel); (case' pu8 => decide +kernel))
  | ((with_reducible show S1 _ _ (.Assign [.Subscript (.Name "row" _) _ _] _ _) _); refine' putF ?pu1 3 ?pu2 ?pu3 ?pu4 ?pue ?pui ?pu5 ?pu6 ?pu7 ?pu8; (case' pu1 => assumption); (case' pu2 => rfl); (case' pu3 => rfl); (case' pu4 => decide +kernel); (case' pue => wtm_at "ev"); (case' pui => wtm_at "ev"); (case' pu5 => try (wtm_at "sd")); (case' pu6 => try (wtm_at "sd")); (case' pu7 => decide +kernel); (case' pu8 => decide +kernel)))
local macro_rules | `(tactic| wtm_at "reto") => `(tactic| first
  | ((with_reducible show S1 _ _ (.Return (some (.Name "P" _)) _) _); exact retOF (by assumption) 0 (by rfl) rfl (by decide +kernel) (by decide +kernel) (by decide +kernel))
  | ((with_reducible show S1 _ _ (.Return (some (.Name "rows" _)) _) _); exact retOF (by assumption) 1 (by rfl) rfl (by decide +kernel) (by decide +kernel) (by decide +kernel))
  | ((with_reducible show S1 _ _ (.Return (some (.Name "found" _)) _) _); exact retOF (by assumption) 2 (by rfl) rfl (by decide +kernel) (by decide +kernel) (by decide +kernel))
  | ((with_reducible show S1 _ _ (.Return (some (.Name "row" _)) _) _); exact retOF (by assumption) 3 (by rfl) rfl (by decide +kernel) (by decide +kernel) (by decide +kernel)))
local macro_rules | `(tactic| wtm_at "tgt") => `(tactic| first
  | ((with_reducible show PG _ (.Name "P" _) _); exact tgF (by assumption) (by assumption) 0 (by rfl) (by decide +kernel))
  | ((with_reducible show PG _ (.Name "rows" _) _); exact tgF (by assumption) (by assumption) 1 (by rfl) (by decide +kernel))
  | ((with_reducible show PG _ (.Name "found" _) _); exact tgF (by assumption) (by assumption) 2 (by rfl) (by decide +kernel))
  | ((with_reducible show PG _ (.Name "row" _) _); exact tgF (by assumption) (by assumption) 3 (by rfl) (by decide +kernel)))
theorem ok_steps {f : Addr} {fd : FuncData} (F : Fun K "steps_form" "steps_form" s_steps_form f fd) (hm : mg "steps_form" = some (.ref f)) (b : Binds K fd ["P", "rows"] []) (Gw : Fn P w K mg base 4 "with_row" ["P", "found", "row"] rWith) : Fn P w K mg base 5 "steps_form" ["P", "rows"] rSteps := by
  refine fnF F hm b sc_steps_form (fun ds r h => by cases h <;> rfl) fun X hX hT ds r h => ?_
  have body : ∀ {p : Int} {wd : Nat} {rows : List (List Int)} {i : Nat} (hi : i < rows.length), Prm p → RowsOn p wd rows → wd ≤ 1000 → rows.length ≤ 800 → ∀ c, (c = .dat (lT (stepsForm p (rows.take (i + 1)))) ∨ (lead (restBy p (stepsForm p (rows.take i)) rows[i]) ≠ wd ∧ c = .own (.lst ((stepsForm p (rows.take (i + 1))).map tI)))) →
      Sm X [.dat (.int p), .dat (lT rows), .dat (lT (stepsForm p (rows.take i))), .dat (tI rows[i])] (match (defBody s_steps_form).getD 1 (.Pass ⟨0, 0, 0, 0⟩) with | .For _ _ bd _ _ => bd | _ => []) (.nx [.dat (.int p), .dat (lT rows), c, .un]) := by
    intro p wd rows i hi hp hr h hz c hc
    have st := steps_take hp hr i
    have p3 := hp.lo
    obtain ⟨_, hlen⟩ := steps_all (show 0 < p by omega) hr i (by omega)
    have hz2 : (stepsForm p (rows.take i)).length ≤ 900 := by omega
    obtain ⟨a1, a2⟩ := hr _ (List.getElem_mem hi)
    have rl := (rest_on (show 0 < p by omega) st.on a1 a2).1
    rw [steps_snoc hi] at hc
    have hw : withRow p (stepsForm p (rows.take i)) rows[i] = if lead (restBy p (stepsForm p (rows.take i)) rows[i]) = wd then stepsForm p (rows.take i) else addRow p (stepsForm p (rows.take i)) (restBy p (stepsForm p (rows.take i)) rows[i]) := by
      unfold withRow
      rw [rl]
    rw [hw] at hc
    generalize stepsForm p (rows.take i) = G at *
    generalize rows[i] = r at *
    by_cases hs : lead (restBy p G r) = wd
    · rw [if_pos hs] at hc
      have hc : c = .dat (lT G) := by
        rcases hc with z | ⟨z, _⟩
        · exact z
        · exact absurd hs z
      rw [hc]
      refine' sm_le (sm_one ?t1) ?l1
      case' t1 =>
        refine' setF hX hT 2 (by rfl) ?q1 (callF hX Gw (by decide) ?q2 ?q3 (rWith.same hp st.on a1 a2 h st.lt hz2 hs) ?q4) (by rfl)
        case' q1 => decide +kernel
        case' q2 => decide +kernel
        case' q3 => wtm_at "args"
        case' q4 => decide +kernel
      case' l1 => wtm_at "le"
    · rw [if_neg hs] at hc
      refine' sm_cons (A1 := [.dat (.int p), .dat (lT rows), .own (.lst ((addRow p G (restBy p G r)).map tI)), .dat (tI r)]) ?t2 ?_
      case' t2 =>
        refine' setF hX hT 2 (by rfl) ?u1 (callF hX Gw (by decide) ?u2 ?u3 (rWith.new hp st.on a1 a2 h st.lt hz2 hs) ?u4) (by rfl)
        case' u1 => decide +kernel
        case' u2 => decide +kernel
        case' u3 => wtm_at "args"
        case' u4 => decide +kernel
      rcases hc with rfl | ⟨_, rfl⟩
      · refine' sm_frz 2 rfl (sm_le sm_nil ?l2)
        case' l2 => wtm_at "le"
      · refine' sm_le sm_nil ?l3
        case' l3 => wtm_at "le"
  cases h with
  | @mk p wd rows hp hr h hz =>
    refine' sm_cons ?s1 ?_
    case' s1 => wtm_at "st"
    refine' sm_frz 2 rfl ?_
    refine' sm_cons (A1 := [.dat (.int p), .dat (lT rows), .dat (lT (stepsForm p rows)), .un]) ?s2 ?_
    case' s2 =>
      refine' s1_le (forL hX 3 rows tI (fun i => [.dat (.int p), .dat (lT rows), .dat (lT (stepsForm p (rows.take i))), .un]) ?i1 rfl ?g1 ?l4 (fun _ => rfl) (fun i hi => ?b1)) ?l5
      case' i1 => wtm_at "iter"
      case' g1 => wtm_at "tgt"
      case' l4 =>
        rw [List.take_zero]
        show LeA _ [.dat (.int p), .dat (lT rows), .dat (.list []), .un]
        wtm_at "le"
      case' l5 =>
        rw [List.take_length]
        wtm_at "le"
      case b1 => exact body hi hp hr h hz _ (.inl rfl)
    refine' sm_end (s1_retE ?e1 ?e2)
    case' e1 => wtm_at "ev"
    case e2 => rfl
  | @own p wd rows r hp hr h hz hl =>
    have hlen : (rows ++ [r]).length = rows.length + 1 := by simp
    have eT : (rows ++ [r]).take rows.length = rows := by simp
    have eG : (rows ++ [r])[rows.length]'(by simp) = r := by simp
    refine' sm_cons ?v1 ?_
    case' v1 => wtm_at "st"
    refine' sm_frz 2 rfl ?_
    refine' sm_cons (A1 := [.dat (.int p), .dat (lT (rows ++ [r])), .own (.lst ((stepsForm p (rows ++ [r])).map tI)), .un]) ?v2 ?_
    case' v2 =>
      refine' s1_le (forL hX 3 (rows ++ [r]) tI (fun i => [.dat (.int p), .dat (lT (rows ++ [r])), if i = rows.length + 1 then .own (.lst ((stepsForm p (rows ++ [r])).map tI)) else .dat (lT (stepsForm p ((rows ++ [r]).take i))), .un]) ?i3 rfl ?g3 ?l6 (fun i => rfl) (fun i hi => ?b3)) ?l7
      case' i3 => wtm_at "iter"
      case' g3 => wtm_at "tgt"
      case' l6 =>
        rw [if_neg (by omega), List.take_zero]
        show LeA _ [.dat (.int p), .dat (lT (rows ++ [r])), .dat (.list []), .un]
        wtm_at "le"
      case' l7 =>
        rw [if_pos hlen]
        wtm_at "le"
      case b3 =>
        rw [if_neg (by omega)]
        refine body hi hp hr h (by omega) _ ?_
        by_cases hi2 : i = rows.length
        · subst hi2
          rw [if_pos rfl]
          refine .inr ⟨by rw [eT, eG]; exact hl, ?_⟩
          rw [← hlen, List.take_length]
        · rw [if_neg (by omega)]
          exact .inl rfl
    refine' sm_end ?w1
    case' w1 => wtm_at "st"
inductive rWeights : List PyData → Res → Prop
  | mk {p : Int} {wd : Nat} {rows : List (List Int)} (hp : Prm p) (hr : RowsOn p wd rows) (h : wd ≤ 100) (hz : rows.length ≤ 100) : rWeights [.int p, lT rows] (.ok (.dat (lT (withWeights p rows))))
local macro_rules | `(tactic| wtm_at "nm") => `(tactic| first
  | ((with_reducible show Ev _ _ (.Name "P" _) _); exact nmF (by assumption) 0 (by rfl) rfl (by decide +kernel) (by decide +kernel) (by decide +kernel))
  | ((with_reducible show Ev _ _ (.Name "rows" _) _); exact nmF (by assumption) 1 (by rfl) rfl (by decide +kernel) (by decide +kernel) (by decide +kernel))
  | ((with_reducible show Ev _ _ (.Name "size" _) _); exact nmF (by assumption) 2 (by rfl) rfl (by decide +kernel) (by decide +kernel) (by decide +kernel))
  | ((with_reducible show Ev _ _ (.Name "longer" _) _); exact nmF (by assumption) 3 (by rfl) rfl (by decide +kernel) (by decide +kernel) (by decide +kernel))
  | ((with_reducible show Ev _ _ (.Name "at" _) _); exact nmF (by assumption) 4 (by rfl) rfl (by decide +kernel) (by decide +kernel) (by decide +kernel))
  | ((with_reducible show Ev _ _ (.Name "k" _) _); exact nmF (by assumption) 5 (by rfl) rfl (by decide +kernel) (by decide +kernel) (by decide +kernel)))
local macro_rules | `(tactic| wtm_at "own") => `(tactic| first
  | ((with_reducible show EvS _ _ (.Name "P" _) _ _); exact ownF (by assumption) 0 (by rfl) rfl (by decide +kernel) (by decide +kernel) (by decide +kernel))
  | ((with_reducible show EvS _ _ (.Name "rows" _) _ _); exact ownF (by assumption) 1 (by rfl) rfl (by decide +kernel) (by decide +kernel) (by decide +kernel))
  | ((with_reducible show EvS _ _ (.Name "size" _) _ _); exact ownF (by assumption) 2 (by rfl) rfl (by decide +kernel) (by decide +kernel) (by decide +kernel))
  | ((with_reducible show EvS _ _ (.Name "longer" _) _ _); exact ownF (by assumption) 3 (by rfl) rfl (by decide +kernel) (by decide +kernel) (by decide +kernel))
  | ((with_reducible show EvS _ _ (.Name "at" _) _ _); exact ownF (by assumption) 4 (by rfl) rfl (by decide +kernel) (by decide +kernel) (by decide +kernel))
  | ((with_reducible show EvS _ _ (.Name "k" _) _ _); exact ownF (by assumption) 5 (by rfl) rfl (by decide +kernel) (by decide +kernel) (by decide +kernel)))
local macro_rules | `(tactic| wtm_at "ownl") => `(tactic| first
  | ((with_reducible show EvL _ _ (.Name "P" _) _); exact ownlF (by assumption) 0 (by rfl) rfl (by decide +kernel) (by decide +kernel) (by decide +kernel))
  | ((with_reducible show EvL _ _ (.Name "rows" _) _); exact ownlF (by assumption) 1 (by rfl) rfl (by decide +kernel) (by decide +kernel) (by decide +kernel))
  | ((with_reducible show EvL _ _ (.Name "size" _) _); exact ownlF (by assumption) 2 (by rfl) rfl (by decide +kernel) (by decide +kernel) (by decide +kernel))
  | ((with_reducible show EvL _ _ (.Name "longer" _) _); exact ownlF (by assumption) 3 (by rfl) rfl (by decide +kernel) (by decide +kernel) (by decide +kernel))
  | ((with_reducible show EvL _ _ (.Name "at" _) _); exact ownlF (by assumption) 4 (by rfl) rfl (by decide +kernel) (by decide +kernel) (by decide +kernel))
  | ((with_reducible show EvL _ _ (.Name "k" _) _); exact ownlF (by assumption) 5 (by rfl) rfl (by decide +kernel) (by decide +kernel) (by decide +kernel)))
local macro_rules | `(tactic| wtm_at "set") => `(tactic| first
  | ((with_reducible show S1 _ _ (.Assign [.Name "P" _] _ _) _); refine' setF ?st1 ?st2 0 ?st3 ?st4 ?ste ?st5; (case' st1 => assumption); (case' st2 => assumption); (case' st3 => rfl); (case' st4 => decide +kernel); (case' ste => wtm_at "ev"); (case' st5 => rfl))
  | ((with_reducible show S1 _ _ (.Assign [.Name "rows" _] _ _) _); refine' setF ?st1 ?st2 1 ?st3 ?st4 ?ste ?st5; (case' st1 => assumption); (case' st2 => assumption); (case' st3 => rfl); (case' st4 => decide +kernel); (case' ste => wtm_at "ev"); (case' st5 => rfl))
  | ((with_reducible show S1 _ _ (.Assign [.Name "size" _] _ _) _); refine' setF ?st1 ?st2 2 ?st3 ?st4 ?ste ?st5; (case' st1 => assumption); (case' st2 => assumption); (case' st3 => rfl); (case' st4 => decide +kernel); (case' ste => wtm_at "ev"); (case' st5 => rfl))
  | ((with_reducible show S1 _ _ (.Assign [.Name "longer" _] _ _) _); refine' setF ?st1 ?st2 3 ?st3 ?st4 ?ste ?st5; (case' st1 => assumption); (case' st2 => assumption); (case' st3 => rfl); (case' st4 => decide +kernel); (case' ste => wtm_at "ev"); (case' st5 => rfl))
  | ((with_reducible show S1 _ _ (.Assign [.Name "at" _] _ _) _); refine' setF ?st1 ?st2 4 ?st3 ?st4 ?ste ?st5; (case' st1 => assumption); (case' st2 => assumption); (case' st3 => rfl); (case' st4 => decide +kernel); (case' ste => wtm_at "ev"); (case' st5 => rfl)))
local macro_rules | `(tactic| wtm_at "app") => `(tactic| first
  | ((with_reducible show S1 _ _ (.Expr (.Call (.Attribute (.Name "P" _) _ _) _ _ _) _) _); refine' appF ?ap1 0 ?ap2 ?ap3 ?ap4 ?ape ?aps ?ap5 ?ap6; (case' ap1 => assumption); (case' ap2 => rfl); (case' ap3 => rfl); (case' ap4 => decide +kernel); (case' ape => wtm_at "ev"); (case' aps => try (wtm_at "sz")); (case' ap5 => decide +kernel); (case' ap6 => decide +kernel))
  | ((with_reducible show S1 _ _ (.Expr (.Call (.Attribute (.Name "rows" _) _ _) _ _ _) _) _); refine' appF ?ap1 1 ?ap2 ?ap3 ?ap4 ?ape ?aps ?ap5 ?ap6; (case' ap1 => assumption); (case' ap2 => rfl); (case' ap3 => rfl); (case' ap4 => decide +kernel); (case' ape => wtm_at "ev"); (case' aps => try (wtm_at "sz")); (case' ap5 => decide +kernel); (case' ap6 => decide +kernel))
  | ((with_reducible show S1 _ _ (.Expr (.Call (.Attribute (.Name "size" _) _ _) _ _ _) _) _); refine' appF ?ap1 2 ?ap2 ?ap3 ?ap4 ?ape ?aps ?ap5 ?ap6; (case' ap1 => assumption); (case' ap2 => rfl); (case' ap3 => rfl); (case' ap4 => decide +kernel); (case' ape => wtm_at "ev"); (case' aps => try (wtm_at "sz")); (case' ap5 => decide +kernel); (case' ap6 => decide +kernel))
  | ((with_reducible show S1 _ _ (.Expr (.Call (.Attribute (.Name "longer" _) _ _) _ _ _) _) _); refine' appF ?ap1 3 ?ap2 ?ap3 ?ap4 ?ape ?aps ?ap5 ?ap6; (case' ap1 => assumption); (case' ap2 => rfl); (case' ap3 => rfl); (case' ap4 => decide +kernel); (case' ape => wtm_at "ev"); (case' aps => try (wtm_at "sz")); (case' ap5 => decide +kernel); (case' ap6 => decide +kernel))
  | ((with_reducible show S1 _ _ (.Expr (.Call (.Attribute (.Name "at" _) _ _) _ _ _) _) _); refine' appF ?ap1 4 ?ap2 ?ap3 ?ap4 ?ape ?aps ?ap5 ?ap6; (case' ap1 => assumption); (case' ap2 => rfl); (case' ap3 => rfl); (case' ap4 => decide +kernel); (case' ape => wtm_at "ev"); (case' aps => try (wtm_at "sz")); (case' ap5 => decide +kernel); (case' ap6 => decide +kernel)))
local macro_rules | `(tactic| wtm_at "put") => `(tactic| first
  | ((with_reducible show S1 _ _ (.Assign [.Subscript (.Name "P" _) _ _] _ _) _); refine' putF ?pu1 0 ?pu2 ?pu3 ?pu4 ?pue ?pui ?pu5 ?pu6 ?pu7 ?pu8; (case' pu1 => assumption); (case' pu2 => rfl); (case' pu3 => rfl); (case' pu4 => decide +kernel); (case' pue => wtm_at "ev"); (case' pui => wtm_at "ev"); (case' pu5 => try (wtm_at "sd")); (case' pu6 => try (wtm_at "sd")); (case' pu7 => decide +kernel); (case' pu8 => decide +kernel))
  | ((with_reducible show S1 _ _ (.Assign [.Subscript (.Name "rows" _) _ _] _ _) _); refine' putF ?pu1 1 ?pu2 ?pu3 ?pu4 ?pue ?pui ?pu5 ?pu6 ?pu7 ?pu8; (case' pu1 => assumption); (case' pu2 => rfl); (case' pu3 => rfl); (case' pu4 => decide +kernel); (case' pue => wtm_at "ev"); (case' pui => wtm_at "ev"); (case' pu5 => try (wtm_at "sd")); (case' pu6 => try (wtm_at "sd")); (case' pu7 => decide +kernel); (case' pu8 => decide +kernel))
  | ((with_reducible show S1 _ _ (.Assign [.Subscript (.Name "size" _) _ _] _ _) _); refine' putF ?pu1 2 ?pu2 ?pu3 ?pu4 ?pue ?pui ?pu5 ?pu6 ?pu7 ?pu8; (case' pu1 => assumption); (case' pu2 => rfl); (case' pu3 => rfl); (case' pu4 => decide +kernel); (case' pue => wtm_at "ev"); (case' pui => wtm_at "ev"); (case' pu5 => try (wtm_at "sd")); (case' pu6 => try (wtm_at "sd")); (case' pu7 => decide +kernel); (case' pu8 => decide +kernel))
  | ((with_reducible show S1 _ _ (.Assign [.Subscript (.Name "longer" _) _ _] _ _) _); refine' putF ?pu1 3 ?pu2 ?pu3 ?pu4 ?pue ?pui ?pu5 ?pu6 ?pu7 ?pu8; (case' pu1 => assumption); (case' pu2 => rfl); (case' pu3 => rfl); (case' pu4 => decide +kernel); (case' pue => wtm_at "ev"); (case' pui => wtm_at "ev"); (case' pu5 => try (wtm_at "sd")); (case' pu6 => try (wtm_at "sd")); (case' pu7 => decide +kernel); (case' pu8 => decide +kernel))
  | ((with_reducible show S1 _ _ (.Assign [.Subscript (.Name "at" _) _ _] _ _) _); refine' putF ?pu1 4 ?pu2 ?pu3 ?pu4 ?pue ?pui ?pu5 ?pu6 ?pu7 ?pu8; (case' pu1 => assumption); (case' pu2 => rfl); (case' pu3 => rfl); (case' pu4 => decide +kernel); (case' pue => wtm_at "ev"); (case' pui => wtm_at "ev"); (case' pu5 => try (wtm_at "sd")); (case' pu6 => try (wtm_at "sd")); (case' pu7 => decide +kernel); (case' pu8 => decide +kernel)))
local macro_rules | `(tactic| wtm_at "reto") => `(tactic| first
  | ((with_reducible show S1 _ _ (.Return (some (.Name "P" _)) _) _); exact retOF (by assumption) 0 (by rfl) rfl (by decide +kernel) (by decide +kernel) (by decide +kernel))
  | ((with_reducible show S1 _ _ (.Return (some (.Name "rows" _)) _) _); exact retOF (by assumption) 1 (by rfl) rfl (by decide +kernel) (by decide +kernel) (by decide +kernel))
  | ((with_reducible show S1 _ _ (.Return (some (.Name "size" _)) _) _); exact retOF (by assumption) 2 (by rfl) rfl (by decide +kernel) (by decide +kernel) (by decide +kernel))
  | ((with_reducible show S1 _ _ (.Return (some (.Name "longer" _)) _) _); exact retOF (by assumption) 3 (by rfl) rfl (by decide +kernel) (by decide +kernel) (by decide +kernel))
  | ((with_reducible show S1 _ _ (.Return (some (.Name "at" _)) _) _); exact retOF (by assumption) 4 (by rfl) rfl (by decide +kernel) (by decide +kernel) (by decide +kernel)))
local macro_rules | `(tactic| wtm_at "tgt") => `(tactic| first
  | ((with_reducible show PG _ (.Name "P" _) _); exact tgF (by assumption) (by assumption) 0 (by rfl) (by decide +kernel))
  | ((with_reducible show PG _ (.Name "rows" _) _); exact tgF (by assumption) (by assumption) 1 (by rfl) (by decide +kernel))
  | ((with_reducible show PG _ (.Name "size" _) _); exact tgF (by assumption) (by assumption) 2 (by rfl) (by decide +kernel))
  | ((with_reducible show PG _ (.Name "longer" _) _); exact tgF (by assumption) (by assumption) 3 (by rfl) (by decide +kernel))
  | ((with_reducible show PG _ (.Name "at" _) _); exact tgF (by assumption) (by assumption) 4 (by rfl) (by decide +kernel)))
theorem ok_weights {f : Addr} {fd : FuncData} (F : Fun K "with_weights" "with_weights" s_with_weights f fd) (hm : mg "with_weights" = some (.ref f)) (b : Binds K fd ["P", "rows"] []) (ml : mg "len" = none) (mr : mg "range" = none) (mt : mg "tuple" = none) (min : mg "int" = none) (Gs : Fn P w K mg base 5 "steps_form" ["P", "rows"] rSteps) : Fn P w K mg base 6 "with_weights" ["P", "rows"] rWeights := by
  refine fnF F hm b sc_with_weights (fun ds r h => by cases h <;> rfl) fun X hX hT ds r h => ?_
  cases h with
  | @mk p wd rows hp hr h hz =>
    have p3 := hp.lo
    have hE := extRows_on (show 1 < p by omega) hr
    have hEl := extRows_len rows
    refine' sm_cons (A1 := [.dat (.int p), .dat (lT rows), .dat (.int rows.length), .un, .un, .un]) ?s1 ?_
    case' s1 =>
      refine' s1_le ?s1a ?s1b
      case' s1a => wtm_at "st"
      case' s1b => rw [List.length_map]; wtm_at "le"
    refine' sm_cons ?s2 ?_
    case' s2 => wtm_at "st"
    refine' sm_cons (A1 := [.dat (.int p), .dat (lT rows), .dat (.int rows.length), .own (.lst ((extRows rows).map tI)), .un, .un]) ?s3 ?_
    case' s3 =>
      refine' s1_le (forR0 hX (n := rows.length) 4 (fun i => [.dat (.int p), .dat (lT rows), .dat (.int rows.length), .own (.lst (((List.range i).map (extRow rows)).map tI)), .un, .un]) ?i1 ?r1 ?g1 ?l1 (fun _ => rfl) (fun i hi => ?b1)) ?l2
      case' i1 => wtm_at "iter"
      case r1 => rw [Int.toNat_natCast]
      case' g1 => wtm_at "tgt"
      case' l1 => wtm_at "le"
      case' l2 =>
        show LeA _ [.dat (.int p), .dat (lT rows), .dat (.int rows.length), .own (.lst (((List.range rows.length).map (extRow rows)).map tI)), .un, .un]
        wtm_at "le"
      case' b1 =>
        have e : ((List.range (i + 1)).map (extRow rows)).map tI = ((List.range i).map (extRow rows)).map tI ++ [tI (rows.getD i [] ++ eRow rows.length i)] := by
          rw [List.range_succ, List.map_append, List.map_append]
          rfl
        rw [e]
        obtain ⟨a1, a2⟩ := hr _ (getD_mem (z := []) hi)
        have hl3 : (((List.range i).map (extRow rows)).map tI).length < sizeLine := by simp [sizeLine_eq]; omega
        have hl4 := eRow_len (n := rows.length) (k := i)
        generalize ((List.range i).map (extRow rows)).map tI = ac at *
        refine' sm_le (sm_one ?t1) ?l3
        case' t1 =>
          refine' appF hX 3 ?q1 ?q2 ?q3 (ev_bin ?q4 ?q5 (BinD.catI ?q6)) hl3 ?q7 ?q8
          case' q1 => rfl
          case' q2 => rfl
          case' q3 => decide +kernel
          case' q4 =>
            refine' tupleTF hX ?q9 mt ?qa
            case' q9 => decide +kernel
            case' qa => wtm_at "ev"
          case' q5 =>
            refine' ev_eq (tupleF hX ?qb mt (evs_new ?qc)) ?qd
            case' qb => decide +kernel
            case' qc =>
              refine' lcF hX 5 (List.range rows.length) (fun k : Nat => .int k) (fun k : Nat => .int (if decide ((k : Int) = (i : Int)) then 1 else 0)) ?i5 ?sr ?ok ?nn ?lx ?zz ?jj fun Y hY z hz => ?ee
              case' i5 => wtm_at "iter"
              case sr => rw [Int.toNat_natCast]
              case' ok => decide +kernel
              case' nn => rfl
              case' lx => decide +kernel
              case zz => simp [sizeLine_eq]; omega
              case' jj => rfl
              case' ee => wtm_at "ev"
            case qd =>
              show _ = C.dat (.tuple ((eRow rows.length i).map .int))
              unfold eRow
              rw [List.map_map]
              rfl
          case q6 => rw [sizeLine_eq]; omega
          case' q7 => decide +kernel
          case' q8 => decide +kernel
        case' l3 => wtm_at "le"
    refine' sm_frz 3 rfl ?_
    refine' sm_end (s1_retE ?e1 ?e2)
    case' e1 =>
      refine' callF hX Gs (by decide) ?u2 ?u3 (rSteps.mk hp hE (by omega) (by omega)) ?u4
      case' u2 => decide +kernel
      case' u3 => wtm_at "args"
      case' u4 => decide +kernel
    case e2 => rfl
inductive rIdleS : List PyData → Res → Prop
  | mk {p : Int} {wd : Nat} {rows : List (List Int)} (hp : Prm p) (hr : RowsOn p wd rows) (h : wd ≤ 100) (hz : rows.length ≤ 100) (h0 : 0 < rows.length) : rIdleS [.int p, lT rows] (.ok (.own (.lst ((idleSums p wd rows).map tI))))
local macro_rules | `(tactic| wtm_at "R") => `(tactic| first
  | ((with_reducible apply rWeights.mk) <;> first | (with_reducible assumption) | omega)
  | ((with_reducible apply rLead.mk) <;> first | (with_reducible assumption) | omega)
  | (constructor; all_goals try (wtm_at "sd")))
local macro_rules | `(tactic| wtm_at "nm") => `(tactic| first
  | ((with_reducible show Ev _ _ (.Name "P" _) _); exact nmF (by assumption) 0 (by rfl) rfl (by decide +kernel) (by decide +kernel) (by decide +kernel))
  | ((with_reducible show Ev _ _ (.Name "rows" _) _); exact nmF (by assumption) 1 (by rfl) rfl (by decide +kernel) (by decide +kernel) (by decide +kernel))
  | ((with_reducible show Ev _ _ (.Name "wide" _) _); exact nmF (by assumption) 2 (by rfl) rfl (by decide +kernel) (by decide +kernel) (by decide +kernel))
  | ((with_reducible show Ev _ _ (.Name "row" _) _); exact nmF (by assumption) 3 (by rfl) rfl (by decide +kernel) (by decide +kernel) (by decide +kernel)))
local macro_rules | `(tactic| wtm_at "own") => `(tactic| first
  | ((with_reducible show EvS _ _ (.Name "P" _) _ _); exact ownF (by assumption) 0 (by rfl) rfl (by decide +kernel) (by decide +kernel) (by decide +kernel))
  | ((with_reducible show EvS _ _ (.Name "rows" _) _ _); exact ownF (by assumption) 1 (by rfl) rfl (by decide +kernel) (by decide +kernel) (by decide +kernel))
  | ((with_reducible show EvS _ _ (.Name "wide" _) _ _); exact ownF (by assumption) 2 (by rfl) rfl (by decide +kernel) (by decide +kernel) (by decide +kernel))
  | ((with_reducible show EvS _ _ (.Name "row" _) _ _); exact ownF (by assumption) 3 (by rfl) rfl (by decide +kernel) (by decide +kernel) (by decide +kernel)))
local macro_rules | `(tactic| wtm_at "ownl") => `(tactic| first
  | ((with_reducible show EvL _ _ (.Name "P" _) _); exact ownlF (by assumption) 0 (by rfl) rfl (by decide +kernel) (by decide +kernel) (by decide +kernel))
  | ((with_reducible show EvL _ _ (.Name "rows" _) _); exact ownlF (by assumption) 1 (by rfl) rfl (by decide +kernel) (by decide +kernel) (by decide +kernel))
  | ((with_reducible show EvL _ _ (.Name "wide" _) _); exact ownlF (by assumption) 2 (by rfl) rfl (by decide +kernel) (by decide +kernel) (by decide +kernel))
  | ((with_reducible show EvL _ _ (.Name "row" _) _); exact ownlF (by assumption) 3 (by rfl) rfl (by decide +kernel) (by decide +kernel) (by decide +kernel)))
local macro_rules | `(tactic| wtm_at "set") => `(tactic| first
  | ((with_reducible show S1 _ _ (.Assign [.Name "P" _] _ _) _); refine' setF ?st1 ?st2 0 ?st3 ?st4 ?ste ?st5; (case' st1 => assumption); (case' st2 => assumption); (case' st3 => rfl); (case' st4 => decide +kernel); (case' ste => wtm_at "ev"); (case' st5 => rfl))
  | ((with_reducible show S1 _ _ (.Assign [.Name "rows" _] _ _) _); refine' setF ?st1 ?st2 1 ?st3 ?st4 ?ste ?st5; (case' st1 => assumption); (case' st2 => assumption); (case' st3 => rfl); (case' st4 => decide +kernel); (case' ste => wtm_at "ev"); (case' st5 => rfl))
  | ((with_reducible show S1 _ _ (.Assign [.Name "wide" _] _ _) _); refine' setF ?st1 ?st2 2 ?st3 ?st4 ?ste ?st5; (case' st1 => assumption); (case' st2 => assumption); (case' st3 => rfl); (case' st4 => decide +kernel); (case' ste => wtm_at "ev"); (case' st5 => rfl)))
local macro_rules | `(tactic| wtm_at "app") => `(tactic| first
  | ((with_reducible show S1 _ _ (.Expr (.Call (.Attribute (.Name "P" _) _ _) _ _ _) _) _); refine' appF ?ap1 0 ?ap2 ?ap3 ?ap4 ?ape ?aps ?ap5 ?ap6; (case' ap1 => assumption); (case' ap2 => rfl); (case' ap3 => rfl); (case' ap4 => decide +kernel); (case' ape => wtm_at "ev"); (case' aps => try (wtm_at "sz")); (case' ap5 => decide +kernel); (case' ap6 => decide +kernel))
  | ((with_reducible show S1 _ _ (.Expr (.Call (.Attribute (.Name "rows" _) _ _) _ _ _) _) _); refine' appF ?ap1 1 ?ap2 ?ap3 ?ap4 ?ape ?aps ?ap5 ?ap6; (case' ap1 => assumption); (case' ap2 => rfl); (case' ap3 => rfl); (case' ap4 => decide +kernel); (case' ape => wtm_at "ev"); (case' aps => try (wtm_at "sz")); (case' ap5 => decide +kernel); (case' ap6 => decide +kernel))
  | ((with_reducible show S1 _ _ (.Expr (.Call (.Attribute (.Name "wide" _) _ _) _ _ _) _) _); refine' appF ?ap1 2 ?ap2 ?ap3 ?ap4 ?ape ?aps ?ap5 ?ap6; (case' ap1 => assumption); (case' ap2 => rfl); (case' ap3 => rfl); (case' ap4 => decide +kernel); (case' ape => wtm_at "ev"); (case' aps => try (wtm_at "sz")); (case' ap5 => decide +kernel); (case' ap6 => decide +kernel)))
local macro_rules | `(tactic| wtm_at "put") => `(tactic| first
  | ((with_reducible show S1 _ _ (.Assign [.Subscript (.Name "P" _) _ _] _ _) _); refine' putF ?pu1 0 ?pu2 ?pu3 ?pu4 ?pue ?pui ?pu5 ?pu6 ?pu7 ?pu8; (case' pu1 => assumption); (case' pu2 => rfl); (case' pu3 => rfl); (case' pu4 => decide +kernel); (case' pue => wtm_at "ev"); (case' pui => wtm_at "ev"); (case' pu5 => try (wtm_at "sd")); (case' pu6 => try (wtm_at "sd")); (case' pu7 => decide +kernel); (case' pu8 => decide +kernel))
  | ((with_reducible show S1 _ _ (.Assign [.Subscript (.Name "rows" _) _ _] _ _) _); refine' putF ?pu1 1 ?pu2 ?pu3 ?pu4 ?pue ?pui ?pu5 ?pu6 ?pu7 ?pu8; (case' pu1 => assumption); (case' pu2 => rfl); (case' pu3 => rfl); (case' pu4 => decide +kernel); (case' pue => wtm_at "ev"); (case' pui => wtm_at "ev"); (case' pu5 => try (wtm_at "sd")); (case' pu6 => try (wtm_at "sd")); (case' pu7 => decide +kernel); (case' pu8 => decide +kernel))
  | ((with_reducible show S1 _ _ (.Assign [.Subscript (.Name "wide" _) _ _] _ _) _); refine' putF ?pu1 2 ?pu2 ?pu3 ?pu4 ?pue ?pui ?pu5 ?pu6 ?pu7 ?pu8; (case' pu1 => assumption); (case' pu2 => rfl); (case' pu3 => rfl); (case' pu4 => decide +kernel); (case' pue => wtm_at "ev"); (case' pui => wtm_at "ev"); (case' pu5 => try (wtm_at "sd")); (case' pu6 => try (wtm_at "sd")); (case' pu7 => decide +kernel); (case' pu8 => decide +kernel)))
local macro_rules | `(tactic| wtm_at "reto") => `(tactic| first
  | ((with_reducible show S1 _ _ (.Return (some (.Name "P" _)) _) _); exact retOF (by assumption) 0 (by rfl) rfl (by decide +kernel) (by decide +kernel) (by decide +kernel))
  | ((with_reducible show S1 _ _ (.Return (some (.Name "rows" _)) _) _); exact retOF (by assumption) 1 (by rfl) rfl (by decide +kernel) (by decide +kernel) (by decide +kernel))
  | ((with_reducible show S1 _ _ (.Return (some (.Name "wide" _)) _) _); exact retOF (by assumption) 2 (by rfl) rfl (by decide +kernel) (by decide +kernel) (by decide +kernel)))
local macro_rules | `(tactic| wtm_at "tgt") => `(tactic| first
  | ((with_reducible show PG _ (.Name "P" _) _); exact tgF (by assumption) (by assumption) 0 (by rfl) (by decide +kernel))
  | ((with_reducible show PG _ (.Name "rows" _) _); exact tgF (by assumption) (by assumption) 1 (by rfl) (by decide +kernel))
  | ((with_reducible show PG _ (.Name "wide" _) _); exact tgF (by assumption) (by assumption) 2 (by rfl) (by decide +kernel)))
theorem ok_idle_sums {f : Addr} {fd : FuncData} (F : Fun K "idle_sums" "idle_sums" s_idle_sums f fd) (hm : mg "idle_sums" = some (.ref f)) (b : Binds K fd ["P", "rows"] []) (ml : mg "len" = none) (Gl : Fn P w K mg base 1 "lead_of" ["row"] rLead) (Gw : Fn P w K mg base 6 "with_weights" ["P", "rows"] rWeights) : Fn P w K mg base 7 "idle_sums" ["P", "rows"] rIdleS := by
  refine fnF F hm b sc_idle_sums (fun ds r h => by cases h <;> rfl) fun X hX hT ds r h => ?_
  cases h with
  | @mk p wd rows hp hr h hz h0 =>
    have p3 := hp.lo
    have hE := extRows_on (show 1 < p by omega) hr
    have hEl := extRows_len rows
    obtain ⟨a1, a2⟩ := hr _ (getD_mem (z := []) h0)
    have ix0 : IxD (rows.map tI) 0 (tI (rows.getD 0 [])) := .nTn (i := 0) h0
    have ons := steps_all (show 0 < p by omega) hE (extRows rows).length (Nat.le_refl _)
    rw [List.take_length] at ons
    have ons : RowsOn p (wd + rows.length) (withWeights p rows) ∧ (withWeights p rows).length ≤ rows.length := by rw [hEl] at ons; exact ons
    have eI : (idleSums p wd rows).map tI = ((withWeights p rows).filter fun r => decide (wd ≤ lead r)).map fun r => tI (r.drop wd) := by
      unfold idleSums
      rw [List.map_map]
      rfl
    rw [eI]
    refine' sm_cons (A1 := [.dat (.int p), .dat (lT rows), .dat (.int wd), .un]) ?s1 ?_
    case' s1 =>
      refine' s1_le ?s1a ?s1b
      case' s1a => wtm_at "st"
      case' s1b => rw [List.length_map, a1]; wtm_at "le"
    obtain ⟨o1, o2⟩ := ons
    refine' sm_end (s1_retE ?e1 ?e2)
    case' e1 =>
      refine' lcIf hX 3 (withWeights p rows) tI (fun r => decide (wd ≤ lead r)) (fun r => tI (r.drop wd)) ?i1 rfl ?k1 ?n1 ?x1 ?z1 ?j1 fun Y hY z hz => ⟨?c1, fun _ => ?b1⟩
      case' i1 =>
        refine' ei_dat (d := lT (withWeights p rows)) (callF hX Gw (by decide) ?u2 ?u3 (rWeights.mk hp hr h hz) ?u4) .lst
        case' u2 => decide +kernel
        case' u3 => wtm_at "args"
        case' u4 => decide +kernel
      case' k1 => decide +kernel
      case' n1 => rfl
      case' x1 => decide +kernel
      case z1 => rw [sizeLine_eq]; omega
      case' j1 => rfl
      case' c1 =>
        have hl1 : z.length ≤ 1000 := by have := (o1 z hz).1; omega
        refine' et_eq ?c2 ?c3
        case' c2 => wtm_at "test"
        case c3 => exact decide_eq_decide.mpr (by omega)
      case' b1 =>
        refine' ev_eq ?b2 ?b3
        case' b2 => wtm_at "ev"
        case b3 => rw [Int.toNat_natCast]
    case e2 => rfl
theorem shut_len : ∀ {F : List (List Int)} {r : List Int} {g : List Int → Int}, (F.foldl (fun r one => r.set (lead one) (g one)) r).length = r.length
  | [], _, _ => rfl
  | one :: F, r, g => by
    show (F.foldl (fun r one => r.set (lead one) (g one)) (r.set (lead one) (g one))).length = _
    rw [shut_len, List.length_set]
inductive rShut : List PyData → Res → Prop
  | mk {p : Int} {wd : Nat} {rows : List (List Int)} {goal : List Int} (hp : Prm p) (hr : RowsOn p wd rows) (hg : RowOn p wd goal) (h : wd ≤ 100) (hz : rows.length ≤ 100) (hl : lead (restBy p (stepsForm p rows) goal) < wd) : rShut [.int p, lT rows, tI goal] (.ok (.dat (tI (shutOff p rows goal))))
local macro_rules | `(tactic| wtm_at "R") => `(tactic| first
  | ((with_reducible apply rLead.mk) <;> first | (with_reducible assumption) | omega)
  | (constructor; all_goals try (wtm_at "sd")))
local macro_rules | `(tactic| wtm_at "nm") => `(tactic| first
  | ((with_reducible show Ev _ _ (.Name "P" _) _); exact nmF (by assumption) 0 (by rfl) rfl (by decide +kernel) (by decide +kernel) (by decide +kernel))
  | ((with_reducible show Ev _ _ (.Name "rows" _) _); exact nmF (by assumption) 1 (by rfl) rfl (by decide +kernel) (by decide +kernel) (by decide +kernel))
  | ((with_reducible show Ev _ _ (.Name "goal" _) _); exact nmF (by assumption) 2 (by rfl) rfl (by decide +kernel) (by decide +kernel) (by decide +kernel))
  | ((with_reducible show Ev _ _ (.Name "found" _) _); exact nmF (by assumption) 3 (by rfl) rfl (by decide +kernel) (by decide +kernel) (by decide +kernel))
  | ((with_reducible show Ev _ _ (.Name "left" _) _); exact nmF (by assumption) 4 (by rfl) rfl (by decide +kernel) (by decide +kernel) (by decide +kernel))
  | ((with_reducible show Ev _ _ (.Name "at" _) _); exact nmF (by assumption) 5 (by rfl) rfl (by decide +kernel) (by decide +kernel) (by decide +kernel))
  | ((with_reducible show Ev _ _ (.Name "c" _) _); exact nmF (by assumption) 6 (by rfl) rfl (by decide +kernel) (by decide +kernel) (by decide +kernel))
  | ((with_reducible show Ev _ _ (.Name "row" _) _); exact nmF (by assumption) 7 (by rfl) rfl (by decide +kernel) (by decide +kernel) (by decide +kernel))
  | ((with_reducible show Ev _ _ (.Name "one" _) _); exact nmF (by assumption) 8 (by rfl) rfl (by decide +kernel) (by decide +kernel) (by decide +kernel)))
local macro_rules | `(tactic| wtm_at "own") => `(tactic| first
  | ((with_reducible show EvS _ _ (.Name "P" _) _ _); exact ownF (by assumption) 0 (by rfl) rfl (by decide +kernel) (by decide +kernel) (by decide +kernel))
  | ((with_reducible show EvS _ _ (.Name "rows" _) _ _); exact ownF (by assumption) 1 (by rfl) rfl (by decide +kernel) (by decide +kernel) (by decide +kernel))
  | ((with_reducible show EvS _ _ (.Name "goal" _) _ _); exact ownF (by assumption) 2 (by rfl) rfl (by decide +kernel) (by decide +kernel) (by decide +kernel))
  | ((with_reducible show EvS _ _ (.Name "found" _) _ _); exact ownF (by assumption) 3 (by rfl) rfl (by decide +kernel) (by decide +kernel) (by decide +kernel))
  | ((with_reducible show EvS _ _ (.Name "left" _) _ _); exact ownF (by assumption) 4 (by rfl) rfl (by decide +kernel) (by decide +kernel) (by decide +kernel))
  | ((with_reducible show EvS _ _ (.Name "at" _) _ _); exact ownF (by assumption) 5 (by rfl) rfl (by decide +kernel) (by decide +kernel) (by decide +kernel))
  | ((with_reducible show EvS _ _ (.Name "c" _) _ _); exact ownF (by assumption) 6 (by rfl) rfl (by decide +kernel) (by decide +kernel) (by decide +kernel))
  | ((with_reducible show EvS _ _ (.Name "row" _) _ _); exact ownF (by assumption) 7 (by rfl) rfl (by decide +kernel) (by decide +kernel) (by decide +kernel))
  | ((with_reducible show EvS _ _ (.Name "one" _) _ _); exact ownF (by assumption) 8 (by rfl) rfl (by decide +kernel) (by decide +kernel) (by decide +kernel)))
local macro_rules | `(tactic| wtm_at "ownl") => `(tactic| first
  | ((with_reducible show EvL _ _ (.Name "P" _) _); exact ownlF (by assumption) 0 (by rfl) rfl (by decide +kernel) (by decide +kernel) (by decide +kernel))
  | ((with_reducible show EvL _ _ (.Name "rows" _) _); exact ownlF (by assumption) 1 (by rfl) rfl (by decide +kernel) (by decide +kernel) (by decide +kernel))
  | ((with_reducible show EvL _ _ (.Name "goal" _) _); exact ownlF (by assumption) 2 (by rfl) rfl (by decide +kernel) (by decide +kernel) (by decide +kernel))
  | ((with_reducible show EvL _ _ (.Name "found" _) _); exact ownlF (by assumption) 3 (by rfl) rfl (by decide +kernel) (by decide +kernel) (by decide +kernel))
  | ((with_reducible show EvL _ _ (.Name "left" _) _); exact ownlF (by assumption) 4 (by rfl) rfl (by decide +kernel) (by decide +kernel) (by decide +kernel))
  | ((with_reducible show EvL _ _ (.Name "at" _) _); exact ownlF (by assumption) 5 (by rfl) rfl (by decide +kernel) (by decide +kernel) (by decide +kernel))
  | ((with_reducible show EvL _ _ (.Name "c" _) _); exact ownlF (by assumption) 6 (by rfl) rfl (by decide +kernel) (by decide +kernel) (by decide +kernel))
  | ((with_reducible show EvL _ _ (.Name "row" _) _); exact ownlF (by assumption) 7 (by rfl) rfl (by decide +kernel) (by decide +kernel) (by decide +kernel))
  | ((with_reducible show EvL _ _ (.Name "one" _) _); exact ownlF (by assumption) 8 (by rfl) rfl (by decide +kernel) (by decide +kernel) (by decide +kernel)))
local macro_rules | `(tactic| wtm_at "set") => `(tactic| first
  | ((with_reducible show S1 _ _ (.Assign [.Name "P" _] _ _) _); refine' setF ?st1 ?st2 0 ?st3 ?st4 ?ste ?st5; (case' st1 => assumption); (case' st2 => assumption); (case' st3 => rfl); (case' st4 => decide +kernel); (case' ste => wtm_at "ev"); (case' st5 => rfl))
  | ((with_reducible show S1 _ _ (.Assign [.Name "rows" _] _ _) _); refine' setF ?st1 ?st2 1 ?st3 ?st4 ?ste ?st5; (case' st1 => assumption); (case' st2 => assumption); (case' st3 => rfl); (case' st4 => decide +kernel); (case' ste => wtm_at "ev"); (case' st5 => rfl))
  | ((with_reducible show S1 _ _ (.Assign [.Name "goal" _] _ _) _); refine' setF ?st1 ?st2 2 ?st3 ?st4 ?ste ?st5; (case' st1 => assumption); (case' st2 => assumption); (case' st3 => rfl); (case' st4 => decide +kernel); (case' ste => wtm_at "ev"); (case' st5 => rfl))
  | ((with_reducible show S1 _ _ (.Assign [.Name "found" _] _ _) _); refine' setF ?st1 ?st2 3 ?st3 ?st4 ?ste ?st5; (case' st1 => assumption); (case' st2 => assumption); (case' st3 => rfl); (case' st4 => decide +kernel); (case' ste => wtm_at "ev"); (case' st5 => rfl))
  | ((with_reducible show S1 _ _ (.Assign [.Name "left" _] _ _) _); refine' setF ?st1 ?st2 4 ?st3 ?st4 ?ste ?st5; (case' st1 => assumption); (case' st2 => assumption); (case' st3 => rfl); (case' st4 => decide +kernel); (case' ste => wtm_at "ev"); (case' st5 => rfl))
  | ((with_reducible show S1 _ _ (.Assign [.Name "at" _] _ _) _); refine' setF ?st1 ?st2 5 ?st3 ?st4 ?ste ?st5; (case' st1 => assumption); (case' st2 => assumption); (case' st3 => rfl); (case' st4 => decide +kernel); (case' ste => wtm_at "ev"); (case' st5 => rfl))
  | ((with_reducible show S1 _ _ (.Assign [.Name "c" _] _ _) _); refine' setF ?st1 ?st2 6 ?st3 ?st4 ?ste ?st5; (case' st1 => assumption); (case' st2 => assumption); (case' st3 => rfl); (case' st4 => decide +kernel); (case' ste => wtm_at "ev"); (case' st5 => rfl))
  | ((with_reducible show S1 _ _ (.Assign [.Name "row" _] _ _) _); refine' setF ?st1 ?st2 7 ?st3 ?st4 ?ste ?st5; (case' st1 => assumption); (case' st2 => assumption); (case' st3 => rfl); (case' st4 => decide +kernel); (case' ste => wtm_at "ev"); (case' st5 => rfl))
  | ((with_reducible show S1 _ _ (.Assign [.Name "one" _] _ _) _); refine' setF ?st1 ?st2 8 ?st3 ?st4 ?ste ?st5; (case' st1 => assumption); (case' st2 => assumption); (case' st3 => rfl); (case' st4 => decide +kernel); (case' ste => wtm_at "ev"); (case' st5 => rfl)))
local macro_rules | `(tactic| wtm_at "app") => `(tactic| first
  | ((with_reducible show S1 _ _ (.Expr (.Call (.Attribute (.Name "P" _) _ _) _ _ _) _) _); refine' appF ?ap1 0 ?ap2 ?ap3 ?ap4 ?ape ?aps ?ap5 ?ap6; (case' ap1 => assumption); (case' ap2 => rfl); (case' ap3 => rfl); (case' ap4 => decide +kernel); (case' ape => wtm_at "ev"); (case' aps => try (wtm_at "sz")); (case' ap5 => decide +kernel); (case' ap6 => decide +kernel))
  | ((with_reducible show S1 _ _ (.Expr (.Call (.Attribute (.Name "rows" _) _ _) _ _ _) _) _); refine' appF ?ap1 1 ?ap2 ?ap3 ?ap4 ?ape ?aps ?ap5 ?ap6; (case' ap1 => assumption); (case' ap2 => rfl); (case' ap3 => rfl); (case' ap4 => decide +kernel); (case' ape => wtm_at "ev"); (case' aps => try (wtm_at "sz")); (case' ap5 => decide +kernel); (case' ap6 => decide +kernel))
  | ((with_reducible show S1 _ _ (.Expr (.Call (.Attribute (.Name "goal" _) _ _) _ _ _) _) _); refine' appF ?ap1 2 ?ap2 ?ap3 ?ap4 ?ape ?aps ?ap5 ?ap6; (case' ap1 => assumption); (case' ap2 => rfl); (case' ap3 => rfl); (case' ap4 => decide +kernel); (case' ape => wtm_at "ev"); (case' aps => try (wtm_at "sz")); (case' ap5 => decide +kernel); (case' ap6 => decide +kernel))
  | ((with_reducible show S1 _ _ (.Expr (.Call (.Attribute (.Name "found" _) _ _) _ _ _) _) _); refine' appF ?ap1 3 ?ap2 ?ap3 ?ap4 ?ape ?aps ?ap5 ?ap6; (case' ap1 => assumption); (case' ap2 => rfl); (case' ap3 => rfl); (case' ap4 => decide +kernel); (case' ape => wtm_at "ev"); (case' aps => try (wtm_at "sz")); (case' ap5 => decide +kernel); (case' ap6 => decide +kernel))
  | ((with_reducible show S1 _ _ (.Expr (.Call (.Attribute (.Name "left" _) _ _) _ _ _) _) _); refine' appF ?ap1 4 ?ap2 ?ap3 ?ap4 ?ape ?aps ?ap5 ?ap6; (case' ap1 => assumption); (case' ap2 => rfl); (case' ap3 => rfl); (case' ap4 => decide +kernel); (case' ape => wtm_at "ev"); (case' aps => try (wtm_at "sz")); (case' ap5 => decide +kernel); (case' ap6 => decide +kernel))
  | ((with_reducible show S1 _ _ (.Expr (.Call (.Attribute (.Name "at" _) _ _) _ _ _) _) _); refine' appF ?ap1 5 ?ap2 ?ap3 ?ap4 ?ape ?aps ?ap5 ?ap6; (case' ap1 => assumption); (case' ap2 => rfl); (case' ap3 => rfl); (case' ap4 => decide +kernel); (case' ape => wtm_at "ev"); (case' aps => try (wtm_at "sz")); (case' ap5 => decide +kernel); (case' ap6 => decide +kernel))
  | ((with_reducible show S1 _ _ (.Expr (.Call (.Attribute (.Name "c" _) _ _) _ _ _) _) _); refine' appF ?ap1 6 ?ap2 ?ap3 ?ap4 ?ape ?aps ?ap5 ?ap6; (case' ap1 => assumption); (case' ap2 => rfl); (case' ap3 => rfl); (case' ap4 => decide +kernel); (case' ape => wtm_at "ev"); (case' aps => try (wtm_at "sz")); (case' ap5 => decide +kernel); (case' ap6 => decide +kernel))
  | ((with_reducible show S1 _ _ (.Expr (.Call (.Attribute (.Name "row" _) _ _) _ _ _) _) _); refine' appF ?ap1 7 ?ap2 ?ap3 ?ap4 ?ape ?aps ?ap5 ?ap6; (case' ap1 => assumption); (case' ap2 => rfl); (case' ap3 => rfl); (case' ap4 => decide +kernel); (case' ape => wtm_at "ev"); (case' aps => try (wtm_at "sz")); (case' ap5 => decide +kernel); (case' ap6 => decide +kernel))
  | ((with_reducible show S1 _ _ (.Expr (.Call (.Attribute (.Name "one" _) _ _) _ _ _) _) _); refine' appF ?ap1 8 ?ap2 ?ap3 ?ap4 ?ape ?aps ?ap5 ?ap6; (case' ap1 => assumption); (case' ap2 => rfl); (case' ap3 => rfl); (case' ap4 => decide +kernel); (case' ape => wtm_at "ev"); (case' aps => try (wtm_at "sz")); (case' ap5 => decide +kernel); (case' ap6 => decide +kernel)))
local macro_rules | `(tactic| wtm_at "put") => `(tactic| first
  | ((with_reducible show S1 _ _ (.Assign [.Subscript (.Name "P" _) _ _] _ _) _); refine' putF ?pu1 0 ?pu2 ?pu3 ?pu4 ?pue ?pui ?pu5 ?pu6 ?pu7 ?pu8; (case' pu1 => assumption); (case' pu2 => rfl); (case' pu3 => rfl); (case' pu4 => decide +kernel); (case' pue => wtm_at "ev"); (case' pui => wtm_at "ev"); (case' pu5 => try (wtm_at "sd")); (case' pu6 => try (wtm_at "sd")); (case' pu7 => decide +kernel); (case' pu8 => decide +kernel))
  | ((with_reducible show S1 _ _ (.Assign [.Subscript (.Name "rows" _) _ _] _ _) _); refine' putF ?pu1 1 ?pu2 ?pu3 ?pu4 ?pue ?pui ?pu5 ?pu6 ?pu7 ?pu8; (case' pu1 => assumption); (case' pu2 => rfl); (case' pu3 => rfl); (case' pu4 => decide +kernel); (case' pue => wtm_at "ev"); (case' pui => wtm_at "ev"); (case' pu5 => try (wtm_at "sd")); (case' pu6 => try (wtm_at "sd")); (case' pu7 => decide +kernel); (case' pu8 => decide +kernel))
  | ((with_reducible show S1 _ _ (.Assign [.Subscript (.Name "goal" _) _ _] _ _) _); refine' putF ?pu1 2 ?pu2 ?pu3 ?pu4 ?pue ?pui ?pu5 ?pu6 ?pu7 ?pu8; (case' pu1 => assumption); (case' pu2 => rfl); (case' pu3 => rfl); (case' pu4 => decide +kernel); (case' pue => wtm_at "ev"); (case' pui => wtm_at "ev"); (case' pu5 => try (wtm_at "sd")); (case' pu6 => try (wtm_at "sd")); (case' pu7 => decide +kernel); (case' pu8 => decide +kernel))
  | ((with_reducible show S1 _ _ (.Assign [.Subscript (.Name "found" _) _ _] _ _) _); refine' putF ?pu1 3 ?pu2 ?pu3 ?pu4 ?pue ?pui ?pu5 ?pu6 ?pu7 ?pu8; (case' pu1 => assumption); (case' pu2 => rfl); (case' pu3 => rfl); (case' pu4 => decide +kernel); (case' pue => wtm_at "ev"); (case' pui => wtm_at "ev"); (case' pu5 => try (wtm_at "sd")); (case' pu6 => try (wtm_at "sd")); (case' pu7 => decide +kernel); (case' pu8 => decide +kernel))
  | ((with_reducible show S1 _ _ (.Assign [.Subscript (.Name "left" _) _ _] _ _) _); refine' putF ?pu1 4 ?pu2 ?pu3 ?pu4 ?pue ?pui ?pu5 ?pu6 ?pu7 ?pu8; (case' pu1 => assumption); (case' pu2 => rfl); (case' pu3 => rfl); (case' pu4 => decide +kernel); (case' pue => wtm_at "ev"); (case' pui => wtm_at "ev"); (case' pu5 => try (wtm_at "sd")); (case' pu6 => try (wtm_at "sd")); (case' pu7 => decide +kernel); (case' pu8 => decide +kernel))
  | ((with_reducible show S1 _ _ (.Assign [.Subscript (.Name "at" _) _ _] _ _) _); refine' putF ?pu1 5 ?pu2 ?pu3 ?pu4 ?pue ?pui ?pu5 ?pu6 ?pu7 ?pu8; (case' pu1 => assumption); (case' pu2 => rfl); (case' pu3 => rfl); (case' pu4 => decide +kernel); (case' pue => wtm_at "ev"); (case' pui => wtm_at "ev"); (case' pu5 => try (wtm_at "sd")); (case' pu6 => try (wtm_at "sd")); (case' pu7 => decide +kernel); (case' pu8 => decide +kernel))
  | ((with_reducible show S1 _ _ (.Assign [.Subscript (.Name "c" _) _ _] _ _) _); refine' putF ?pu1 6 ?pu2 ?pu3 ?pu4 ?pue ?pui ?pu5 ?pu6 ?pu7 ?pu8; (case' pu1 => assumption); (case' pu2 => rfl); (case' pu3 => rfl); (case' pu4 => decide +kernel); (case' pue => wtm_at "ev"); (case' pui => wtm_at "ev"); (case' pu5 => try (wtm_at "sd")); (case' pu6 => try (wtm_at "sd")); (case' pu7 => decide +kernel); (case' pu8 => decide +kernel))
  | ((with_reducible show S1 _ _ (.Assign [.Subscript (.Name "row" _) _ _] _ _) _); refine' putF ?pu1 7 ?pu2 ?pu3 ?pu4 ?pue ?pui ?pu5 ?pu6 ?pu7 ?pu8; (case' pu1 => assumption); (case' pu2 => rfl); (case' pu3 => rfl); (case' pu4 => decide +kernel); (case' pue => wtm_at "ev"); (case' pui => wtm_at "ev"); (case' pu5 => try (wtm_at "sd")); (case' pu6 => try (wtm_at "sd")); (case' pu7 => decide +kernel); (case' pu8 => decide +kernel))
  | ((with_reducible show S1 _ _ (.Assign [.Subscript (.Name "one" _) _ _] _ _) _); refine' putF ?pu1 8 ?pu2 ?pu3 ?pu4 ?pue ?pui ?pu5 ?pu6 ?pu7 ?pu8; (case' pu1 => assumption); (case' pu2 => rfl); (case' pu3 => rfl); (case' pu4 => decide +kernel); (case' pue => wtm_at "ev"); (case' pui => wtm_at "ev"); (case' pu5 => try (wtm_at "sd")); (case' pu6 => try (wtm_at "sd")); (case' pu7 => decide +kernel); (case' pu8 => decide +kernel)))
local macro_rules | `(tactic| wtm_at "reto") => `(tactic| first
  | ((with_reducible show S1 _ _ (.Return (some (.Name "P" _)) _) _); exact retOF (by assumption) 0 (by rfl) rfl (by decide +kernel) (by decide +kernel) (by decide +kernel))
  | ((with_reducible show S1 _ _ (.Return (some (.Name "rows" _)) _) _); exact retOF (by assumption) 1 (by rfl) rfl (by decide +kernel) (by decide +kernel) (by decide +kernel))
  | ((with_reducible show S1 _ _ (.Return (some (.Name "goal" _)) _) _); exact retOF (by assumption) 2 (by rfl) rfl (by decide +kernel) (by decide +kernel) (by decide +kernel))
  | ((with_reducible show S1 _ _ (.Return (some (.Name "found" _)) _) _); exact retOF (by assumption) 3 (by rfl) rfl (by decide +kernel) (by decide +kernel) (by decide +kernel))
  | ((with_reducible show S1 _ _ (.Return (some (.Name "left" _)) _) _); exact retOF (by assumption) 4 (by rfl) rfl (by decide +kernel) (by decide +kernel) (by decide +kernel))
  | ((with_reducible show S1 _ _ (.Return (some (.Name "at" _)) _) _); exact retOF (by assumption) 5 (by rfl) rfl (by decide +kernel) (by decide +kernel) (by decide +kernel))
  | ((with_reducible show S1 _ _ (.Return (some (.Name "c" _)) _) _); exact retOF (by assumption) 6 (by rfl) rfl (by decide +kernel) (by decide +kernel) (by decide +kernel))
  | ((with_reducible show S1 _ _ (.Return (some (.Name "row" _)) _) _); exact retOF (by assumption) 7 (by rfl) rfl (by decide +kernel) (by decide +kernel) (by decide +kernel))
  | ((with_reducible show S1 _ _ (.Return (some (.Name "one" _)) _) _); exact retOF (by assumption) 8 (by rfl) rfl (by decide +kernel) (by decide +kernel) (by decide +kernel)))
local macro_rules | `(tactic| wtm_at "tgt") => `(tactic| first
  | ((with_reducible show PG _ (.Name "P" _) _); exact tgF (by assumption) (by assumption) 0 (by rfl) (by decide +kernel))
  | ((with_reducible show PG _ (.Name "rows" _) _); exact tgF (by assumption) (by assumption) 1 (by rfl) (by decide +kernel))
  | ((with_reducible show PG _ (.Name "goal" _) _); exact tgF (by assumption) (by assumption) 2 (by rfl) (by decide +kernel))
  | ((with_reducible show PG _ (.Name "found" _) _); exact tgF (by assumption) (by assumption) 3 (by rfl) (by decide +kernel))
  | ((with_reducible show PG _ (.Name "left" _) _); exact tgF (by assumption) (by assumption) 4 (by rfl) (by decide +kernel))
  | ((with_reducible show PG _ (.Name "at" _) _); exact tgF (by assumption) (by assumption) 5 (by rfl) (by decide +kernel))
  | ((with_reducible show PG _ (.Name "c" _) _); exact tgF (by assumption) (by assumption) 6 (by rfl) (by decide +kernel))
  | ((with_reducible show PG _ (.Name "row" _) _); exact tgF (by assumption) (by assumption) 7 (by rfl) (by decide +kernel))
  | ((with_reducible show PG _ (.Name "one" _) _); exact tgF (by assumption) (by assumption) 8 (by rfl) (by decide +kernel)))
theorem ok_shut {f : Addr} {fd : FuncData} (F : Fun K "shut_off" "shut_off" s_shut_off f fd) (hm : mg "shut_off" = some (.ref f)) (b : Binds K fd ["P", "rows", "goal"] []) (ml : mg "len" = none) (mt : mg "tuple" = none) (Gon : Fn P w K mg base 1 "on" ["P", "n"] rOn) (Gb : Fn P w K mg base 2 "back" ["P", "n"] rBack)
    (Gl : Fn P w K mg base 1 "lead_of" ["row"] rLead) (Gr : Fn P w K mg base 3 "rest_by" ["P", "found", "row"] rRest) (Gs : Fn P w K mg base 5 "steps_form" ["P", "rows"] rSteps) : Fn P w K mg base 6 "shut_off" ["P", "rows", "goal"] rShut := by
  refine fnF F hm b sc_shut_off (fun ds r h => by cases h <;> rfl) fun X hX hT ds r h => ?_
  cases h with
  | @mk p wd rows goal hp hr hg h hz hl =>
    have p3 := hp.lo
    have p9 := hp.hi
    have p0 : 0 < p := by omega
    have eS : shutOff p rows goal = shutRow p (stepsForm p rows) (restBy p (stepsForm p rows) goal) := rfl
    rw [eS]
    have st := (stepsForm_ok hp hr).1
    have hlen := (steps_all p0 hr rows.length (Nat.le_refl _)).2
    rw [List.take_length] at hlen
    refine' sm_cons ?s1 ?_
    case' s1 =>
      refine' setF hX hT 3 (by rfl) ?a1 (callF hX Gs (by decide) ?a2 ?a3 (rSteps.mk hp hr (by omega) (by omega)) ?a4) (by rfl)
      case' a1 => decide +kernel
      case' a2 => decide +kernel
      case' a3 => wtm_at "args"
      case' a4 => decide +kernel
    generalize stepsForm p rows = G at *
    obtain ⟨r1, r2⟩ := rest_on p0 st.on hg.1 hg.2
    refine' sm_cons ?s2 ?_
    case' s2 =>
      refine' setF hX hT 4 (by rfl) ?b1 (callF hX Gr (by decide) ?b2 ?b3 (rRest.mk p0 st.on hg.1 hg.2 (by omega) (by omega) st.lt (by omega)) ?b4) (by rfl)
      case' b1 => decide +kernel
      case' b2 => decide +kernel
      case' b3 => wtm_at "args"
      case' b4 => decide +kernel
    generalize restBy p G goal = left at *
    have hl2 : lead left < left.length := by omega
    have lz : left.length ≤ 1000 := by omega
    obtain ⟨b0, b1⟩ := r2 _ (getD_mem (z := 0) hl2)
    have hn0 := (lead_lt hl2).2
    have hbk : left.getD (lead left) 0 % p ≠ 0 := by rw [Int.emod_eq_of_lt b0 b1]; exact hn0
    obtain ⟨k0, k1, _⟩ := back_ok hp hbk
    have gl : goal.length ≤ 1000 := by rw [hg.1]; omega
    have eR : shutRow p G left = G.foldl (fun r one => r.set (lead one) ((0 - backN p (left.getD (lead left) 0) * one.getD (lead left) 0) % p)) ((zeroV left.length).set (lead left) (backN p (left.getD (lead left) 0))) := rfl
    rw [eR]
    refine' sm_cons ?s3 ?_
    case' s3 => wtm_at "st"
    refine' sm_cons (A1 := [.dat (.int p), .dat (lT rows), .dat (tI goal), .dat (lT G), .dat (tI left), .dat (.int (lead left)), .dat (.int (backN p (left.getD (lead left) 0))), .un, .un]) ?s4 ?_
    case' s4 =>
      refine' setF hX hT 6 (by rfl) ?c1 (callF hX Gb (by decide) ?c2 ?c3 (rBack.mk hp hbk) ?c4) (by rfl)
      case' c1 => decide +kernel
      case' c2 => decide +kernel
      case' c3 => wtm_at "args"
      case' c4 => decide +kernel
    generalize backN p (left.getD (lead left) 0) = c at *
    refine' sm_cons (A1 := [.dat (.int p), .dat (lT rows), .dat (tI goal), .dat (lT G), .dat (tI left), .dat (.int (lead left)), .dat (.int c), .own (.lst ((zeroV left.length).map .int)), .un]) ?s5 ?_
    case' s5 =>
      refine' s1_le ?s5a ?s5b
      case' s5a => wtm_at "st"
      case' s5b =>
        rw [List.length_map, Int.toNat_natCast, hg.1, ← r1]
        wtm_at "le"
    have zl : (zeroV left.length).length = left.length := by simp
    refine' sm_cons (A1 := [.dat (.int p), .dat (lT rows), .dat (tI goal), .dat (lT G), .dat (tI left), .dat (.int (lead left)), .dat (.int c), .own (.lst (((zeroV left.length).set (lead left) c).map .int)), .un]) ?s6 ?_
    case' s6 =>
      refine' s1_le ?s6a ?s6b
      case' s6a => wtm_at "st"
      case' s6b =>
        rw [List.map_set, Int.toNat_natCast]
        wtm_at "le"
    have zl2 : ((zeroV left.length).set (lead left) c).length = wd := by rw [List.length_set, zl, r1]
    generalize (zeroV left.length).set (lead left) c = z0 at *
    refine' sm_cons (A1 := [.dat (.int p), .dat (lT rows), .dat (tI goal), .dat (lT G), .dat (tI left), .dat (.int (lead left)), .dat (.int c), .own (.lst ((G.foldl (fun r one => r.set (lead one) ((0 - c * one.getD (lead left) 0) % p)) z0).map .int)), .un]) ?s7 ?_
    case' s7 =>
      refine' s1_le (forL hX 8 G tI (fun i => [.dat (.int p), .dat (lT rows), .dat (tI goal), .dat (lT G), .dat (tI left), .dat (.int (lead left)), .dat (.int c), .own (.lst (((G.take i).foldl (fun r one => r.set (lead one) ((0 - c * one.getD (lead left) 0) % p)) z0).map .int)), .un]) ?i1 rfl ?g1 ?l1 (fun _ => rfl) (fun i hi => ?b5)) ?l2
      case' i1 => wtm_at "iter"
      case' g1 => wtm_at "tgt"
      case' l1 => wtm_at "le"
      case' l2 => rw [List.take_length]; wtm_at "le"
      case' b5 =>
        have e : (G.take (i + 1)).foldl (fun r one => r.set (lead one) ((0 - c * one.getD (lead left) 0) % p)) z0 = ((G.take i).foldl (fun r one => r.set (lead one) ((0 - c * one.getD (lead left) 0) % p)) z0).set (lead G[i]) ((0 - c * (G[i]).getD (lead left) 0) % p) := by
          rw [List.take_add_one, List.getElem?_eq_getElem hi, List.foldl_append]
          rfl
        rw [e]
        have sl := shut_len (F := G.take i) (r := z0) (g := fun one => (0 - c * one.getD (lead left) 0) % p)
        obtain ⟨y1, y2⟩ := st.on _ (List.getElem_mem hi)
        have y3 := st.lt _ (List.getElem_mem hi)
        generalize (G.take i).foldl (fun r one => r.set (lead one) ((0 - c * one.getD (lead left) 0) % p)) z0 = ac at *
        generalize G[i] = one at *
        have y4 : lead left < one.length := by omega
        have y5 : one.length ≤ 1000 := by omega
        have y6 : lead one < ac.length := by omega
        obtain ⟨y7, y8⟩ := y2 _ (getD_mem (z := 0) y4)
        have cm : CMul c (one.getD (lead left) 0) := .inl (by omega)
        refine' sm_le (sm_one ?t1) ?l3
        case' t1 => wtm_at "st"
        case' l3 =>
          rw [List.map_set, Int.toNat_natCast]
          wtm_at "le"
    refine' sm_end (s1_retE ?e1 ?e2)
    case' e1 => wtm_at "ev"
    case e2 => rfl
end
end W

namespace W
section
variable {P : Int} {wd : Nat} {rows : List (List Int)}
theorem app_get {a b : List Int} {j : Nat} (h : j < a.length) : (a ++ b).getD j 0 = a.getD j 0 := by
  rw [List.getD_eq_getElem?_getD, List.getD_eq_getElem?_getD, List.getElem?_append_left h]
theorem app_get2 {a b : List Int} {j : Nat} : (a ++ b).getD (a.length + j) 0 = b.getD j 0 := by
  rw [List.getD_eq_getElem?_getD, List.getD_eq_getElem?_getD, List.getElem?_append_right (by omega)]
  congr 2
  omega
theorem drop_get {a : List Int} {k j : Nat} : (a.drop k).getD j 0 = a.getD (k + j) 0 := by
  rw [List.getD_eq_getElem?_getD, List.getD_eq_getElem?_getD, List.getElem?_drop]
theorem take_get {a : List Int} {k j : Nat} (h : j < k) : (a.take k).getD j 0 = a.getD j 0 := by
  rw [List.getD_eq_getElem?_getD, List.getD_eq_getElem?_getD, List.getElem?_take_of_lt h]
theorem take_on {n : Nat} {v : List Int} (hv : RowOn P (wd + n) v) : RowOn P wd (v.take wd) := ⟨by rw [List.length_take, hv.1]; omega, fun y hy => hv.2 y (List.mem_of_mem_take hy)⟩
theorem drop_on {n : Nat} {v : List Int} (hv : RowOn P (wd + n) v) : RowOn P n (v.drop wd) := ⟨by rw [List.length_drop, hv.1]; omega, fun y hy => hv.2 y (List.mem_of_mem_drop hy)⟩
/-- what rows come to by weights -/
def combV (P : Int) (wd : Nat) (rows : List (List Int)) (cs : List Int) : List Int := (List.range wd).map fun j => (sm rows.length fun i => cs.getD i 0 * (rows.getD i []).getD j 0) % P
theorem comb_get {cs : List Int} {j : Nat} (hj : j < wd) : (combV P wd rows cs).getD j 0 = (sm rows.length fun i => cs.getD i 0 * (rows.getD i []).getD j 0) % P := by
  unfold combV
  rw [getD_map _ 0 0 (by simpa using hj)]
  have e : (List.range wd).getD j 0 = j := by rw [List.getD_eq_getElem?_getD, List.getElem?_range hj]; rfl
  rw [e]
variable (hp : Prm P) (hr : RowsOn P wd rows)
include hp
theorem comb_on {cs : List Int} : RowOn P wd (combV P wd rows cs) := by
  have p1 := hp.one
  refine ⟨by simp [combV], fun y hy => ?_⟩
  obtain ⟨z, _, rfl⟩ := List.mem_map.mp hy
  exact ⟨Int.emod_nonneg _ (by omega), Int.emod_lt_of_pos _ (by omega)⟩
include hr
theorem ext_head {k j : Nat} (hk : k < rows.length) (hj : j < wd) : (extRow rows k).getD j 0 = (rows.getD k []).getD j 0 := by
  unfold extRow
  exact app_get (by rw [(hr _ (getD_mem (z := []) hk)).1]; exact hj)
theorem ext_tail {k i : Nat} (hk : k < rows.length) (hi : i < rows.length) : (extRow rows k).getD (wd + i) 0 = if i = k then 1 else 0 := by
  unfold extRow
  have e := (hr _ (getD_mem (z := []) hk)).1
  have := app_get2 (a := rows.getD k []) (b := eRow rows.length k) (j := i)
  rw [e] at this
  rw [this, eRow_get hi]
theorem ext_len : ∀ r, r ∈ extRows rows → r.length = wd + rows.length := fun r h => (extRows_on hp.one hr r h).1
/-- what comes of the longer rows: its front is told by its weights -/
theorem ext_comb {v : List Int} (hv : Sp P (wd + rows.length) (· ∈ extRows rows) v) : ∀ j, j < wd → Em P (v.getD j 0) (sm rows.length fun i => v.getD (wd + i) 0 * (rows.getD i []).getD j 0) := by
  have p1 := hp.one
  induction hv with
  | zero =>
    intro j hj
    rw [rep_get]
    refine Em.of_eq ?_
    rw [show (sm rows.length fun i => (List.replicate (wd + rows.length) (0 : Int)).getD (wd + i) 0 * (rows.getD i []).getD j 0) = sm rows.length fun _ => 0 from sm_congr fun i _ => by rw [rep_get, Int.zero_mul]]
    rw [sm_zero]
  | @step v r c h hm ih =>
    intro j hj
    obtain ⟨k, hk, rfl⟩ := List.mem_map.mp hm
    have hk := List.mem_range.mp hk
    have lv := (h.on p1 (ext_len hp hr)).1
    have lr := ext_len hp hr _ hm
    refine (less_em lv lr (by omega)).trans ?_
    rw [ext_head hp hr hk hj]
    refine ((ih j hj).sub Em.refl).trans ?_
    have e1 : Em P (sm rows.length fun i => (lessV P v (extRow rows k) c).getD (wd + i) 0 * (rows.getD i []).getD j 0) (sm rows.length fun i => v.getD (wd + i) 0 * (rows.getD i []).getD j 0 + -c * (if i = k then (rows.getD i []).getD j 0 else 0)) := Em.sm fun i hi => by
      refine ((less_em lv lr (by omega)).mul Em.refl).trans (Em.of_eq ?_)
      rw [ext_tail hp hr hk hi]
      split <;> grind
    refine Em.trans (Em.of_eq ?_) e1.symm
    rw [sm_add, sm_mulL, sm_pick, if_pos hk]
    grind
/-- each thing that comes of the rows is the front of one that comes of the longer ones -/
theorem ext_lift {u : List Int} (hu : Sp P wd (· ∈ rows) u) : ∃ v, Sp P (wd + rows.length) (· ∈ extRows rows) v ∧ ∀ j, j < wd → v.getD j 0 = u.getD j 0 := by
  have p1 := hp.one
  induction hu with
  | zero => exact ⟨_, .zero, fun j _ => by rw [rep_get, rep_get]⟩
  | @step u r c h hm ih =>
    obtain ⟨v, hv, e⟩ := ih
    obtain ⟨k, hk, rfl⟩ := List.mem_iff_getElem.mp hm
    have em : extRow rows k ∈ extRows rows := List.mem_map.mpr ⟨k, List.mem_range.mpr hk, rfl⟩
    have ek : rows.getD k [] = rows[k] := by rw [List.getD_eq_getElem?_getD, List.getElem?_eq_getElem hk]; rfl
    refine ⟨_, .step (c := c) hv em, fun j hj => ?_⟩
    have lv := (hv.on p1 (ext_len hp hr)).1
    have lr := ext_len hp hr _ em
    have lu := (h.on p1 fun r hr' => (hr r hr').1).1
    have lk := (hr _ hm).1
    rw [lessV_get (by rw [lr, lv]) (by omega), lessV_get (by rw [lu, lk]) (by omega), e j hj, ext_head hp hr hk hj, ek]
theorem ww_steps : Steps P (wd + rows.length) (withWeights P rows) ∧ (∀ q, Sp P (wd + rows.length) (· ∈ withWeights P rows) q ↔ Sp P (wd + rows.length) (· ∈ extRows rows) q) := by
  have p1 := hp.one
  have hE := extRows_on p1 hr
  obtain ⟨a, b, c⟩ := stepsForm_ok hp hE
  exact ⟨a, fun q => ⟨fun h => h.bind p1 a.hS (ext_len hp hr) b, fun h => h.bind p1 (ext_len hp hr) a.hS c⟩⟩
theorem fr_lead {v : List Int} (hv : v.length = wd + rows.length) (h : wd ≤ lead v) : ∀ j, j < wd → v.getD j 0 = 0 := fun j hj => by
  rcases lead_cases v with ⟨z, _⟩ | ⟨_, z, _⟩
  · exact z j (by omega)
  · exact z j (by omega)
theorem lead_fr {v : List Int} (hv : v.length = wd + rows.length) (h : ∀ j, j < wd → v.getD j 0 = 0) : wd ≤ lead v := by
  rcases Nat.lt_or_ge (lead v) wd with q | q
  · exact absurd (h _ q) (lead_lt (r := v) (by omega)).2
  · exact q
/-- the idle weights bring the rows to nothing -/
theorem idle_null {w : List Int} (hw : w ∈ idleSums P wd rows) : w.length = rows.length ∧ OnW P w ∧ ∀ j, j < wd → Em P 0 (sm rows.length fun i => w.getD i 0 * (rows.getD i []).getD j 0) := by
  have p1 := hp.one
  obtain ⟨a, b⟩ := ww_steps hp hr
  obtain ⟨v, hv, rfl⟩ := List.mem_map.mp hw
  obtain ⟨hv1, hv2⟩ := List.mem_filter.mp hv
  have on := a.on v hv1
  have hl := of_decide_eq_true hv2
  refine ⟨(drop_on on).1, (drop_on on).2, fun j hj => ?_⟩
  have e := ext_comb hp hr ((b v).mp (Sp.mem p1 (S := (· ∈ withWeights P rows)) hv1 on)) j hj
  rw [fr_lead hp hr on.1 hl j hj] at e
  refine e.trans (Em.of_eq (sm_congr fun i hi => ?_))
  rw [drop_get]
omit hr in
theorem lead_drop {n : Nat} {v : List Int} (hv : v.length = wd + n) (h : wd ≤ lead v) : lead (v.drop wd) = lead v - wd := by
  rcases lead_cases v with ⟨z, e⟩ | ⟨x, y, z⟩
  · have : v.drop wd = zeroV n := by
      refine ext_getD 0 (by rw [List.length_drop, hv]; simp) fun i hi => ?_
      rw [List.length_drop] at hi
      rw [drop_get, rep_get]
      exact z _ (by omega)
    rw [this, zero_lead, e]
    omega
  · refine lead_eq (by rw [List.length_drop]; omega) (fun i hi => ?_) ?_
    · rw [drop_get]; exact y _ (by omega)
    · rw [drop_get]
      have : wd + (lead v - wd) = lead v := by omega
      rw [this]; exact z
theorem idle_steps : Steps P rows.length (idleSums P wd rows) := by
  have p1 := hp.one
  obtain ⟨a, _⟩ := ww_steps hp hr
  have mem : ∀ w, w ∈ idleSums P wd rows → ∃ v ∈ withWeights P rows, wd ≤ lead v ∧ w = v.drop wd ∧ lead w = lead v - wd := fun w hw => by
    obtain ⟨v, hv, rfl⟩ := List.mem_map.mp hw
    obtain ⟨hv1, hv2⟩ := List.mem_filter.mp hv
    have hl := of_decide_eq_true hv2
    exact ⟨v, hv1, hl, rfl, lead_drop hp (a.on v hv1).1 hl⟩
  refine ⟨fun w hw => ?_, fun w hw => ?_, fun w hw => ?_, fun w hw u hu => ?_, ?_⟩
  · obtain ⟨v, hv, _, rfl, _⟩ := mem w hw
    exact drop_on (a.on v hv)
  · obtain ⟨v, hv, hl, rfl, e⟩ := mem w hw
    have := a.lt v hv
    omega
  · obtain ⟨v, hv, hl, rfl, e⟩ := mem w hw
    rw [e, drop_get]
    have : wd + (lead v - wd) = lead v := by omega
    rw [this]
    exact a.one v hv
  · obtain ⟨v, hv, hl, rfl, e⟩ := mem w hw
    obtain ⟨x, hx, hl2, rfl, e2⟩ := mem u hu
    rw [e, e2]
    intro hne
    rw [drop_get]
    have : wd + (lead x - wd) = lead x := by omega
    rw [this]
    exact a.clr v hv x hx (by omega)
  · unfold idleSums
    rw [List.pairwise_map]
    refine ((a.inc.filter _).imp_of_mem fun {x y} hx hy h => ?_)
    obtain ⟨hx1, hx2⟩ := List.mem_filter.mp hx
    obtain ⟨hy1, hy2⟩ := List.mem_filter.mp hy
    rw [lead_drop hp (a.on x hx1).1 (of_decide_eq_true hx2), lead_drop hp (a.on y hy1).1 (of_decide_eq_true hy2)]
    have := of_decide_eq_true hx2
    omega
/-- a thing with a front of nothing comes of the rows with such fronts -/
theorem fr_rest : ∀ {F : List (List Int)}, Steps P (wd + rows.length) F → ∀ {v : List Int}, RowOn P (wd + rows.length) v → (∀ j, j < wd → v.getD j 0 = 0) → restBy P F v = restBy P (F.filter fun r => decide (wd ≤ lead r)) v ∧ ∀ j, j < wd → (restBy P F v).getD j 0 = 0
  | [], _, _, _, h => ⟨rfl, h⟩
  | one :: F, hF, v, hv, h => by
    have p1 := hp.one
    have h1 := hF.on one List.mem_cons_self
    have hl := hF.lt one List.mem_cons_self
    by_cases hw : wd ≤ lead one
    · have hz : ∀ j, j < wd → (lessV P v one (v.getD (lead one) 0)).getD j 0 = 0 := fun j hj => by
        rw [lessV_get (by rw [h1.1, hv.1]) (by rw [hv.1]; omega), h j hj, fr_lead hp hr h1.1 hw j hj, Int.mul_zero]
        rfl
      obtain ⟨a, b⟩ := fr_rest hF.tail (less_on p1 hv.1 h1.1) hz
      rw [List.filter_cons, if_pos (decide_eq_true hw), rest_cons, rest_cons]
      exact ⟨a, b⟩
    · obtain ⟨a, b⟩ := fr_rest hF.tail hv h
      rw [List.filter_cons, if_neg (by simpa using hw), rest_cons, h _ (by omega), less_none p1 hv h1.1]
      exact ⟨a, b⟩
/-- the rest by longer rows with fronts of nothing, behind the fronts -/
theorem drop_rest : ∀ {F : List (List Int)}, RowsOn P (wd + rows.length) F → (∀ q ∈ F, wd ≤ lead q ∧ lead q < wd + rows.length) → ∀ {v : List Int}, RowOn P (wd + rows.length) v → (restBy P F v).drop wd = restBy P (F.map (List.drop wd)) (v.drop wd)
  | [], _, _, _, _ => rfl
  | one :: F, hF, hl, v, hv => by
    have p1 := hp.one
    have h1 := hF one List.mem_cons_self
    have h2 := hl one List.mem_cons_self
    have e : (lessV P v one (v.getD (lead one) 0)).drop wd = lessV P (v.drop wd) (one.drop wd) ((v.drop wd).getD (lead (one.drop wd)) 0) := by
      have e2 : (v.drop wd).getD (lead (one.drop wd)) 0 = v.getD (lead one) 0 := by
        rw [lead_drop hp h1.1 h2.1, drop_get]
        congr 1
        omega
      rw [e2]
      have l1 := (drop_on hv).1
      have l2 := (drop_on h1).1
      have l3 := (less_on p1 (c := v.getD (lead one) 0) hv.1 h1.1)
      refine ext_getD 0 (by rw [(drop_on l3).1, lessV_len (by rw [l1, l2]), l1]) fun i hi => ?_
      rw [(drop_on l3).1] at hi
      rw [drop_get, lessV_get (by rw [hv.1, h1.1]) (by rw [hv.1]; omega), lessV_get (by rw [l1, l2]) (by rw [l1]; exact hi), drop_get, drop_get]
    show (restBy P F (lessV P v one (v.getD (lead one) 0))).drop wd = restBy P (F.map (List.drop wd)) (lessV P (v.drop wd) (one.drop wd) ((v.drop wd).getD (lead (one.drop wd)) 0))
    rw [← e]
    exact drop_rest (fun q hq => hF q (List.mem_cons_of_mem _ hq)) (fun q hq => hl q (List.mem_cons_of_mem _ hq)) (less_on p1 hv.1 h1.1)
end
end W

namespace W
section
variable {P : Int} {wd : Nat} (p1 : 1 < P)
include p1
theorem rest_idem : ∀ {F : List (List Int)}, RowsOn P wd F → ∀ {v : List Int}, RowOn P wd v → (∀ q ∈ F, v.getD (lead q) 0 = 0) → restBy P F v = v
  | [], _, _, _, _ => rfl
  | one :: F, hF, v, hv, h => by
    rw [rest_cons, h one List.mem_cons_self, less_none p1 hv (hF one List.mem_cons_self).1]
    exact rest_idem (fun q hq => hF q (List.mem_cons_of_mem _ hq)) hv fun q hq => h q (List.mem_cons_of_mem _ hq)
theorem null_of_rest {F : List (List Int)} (h : Steps P wd F) {v : List Int} (hv : RowOn P wd v) (hz : restBy P F v = zeroV wd) : Sp P wd (· ∈ F) v :=
  rest_ps p1 h.hS (fun q hq => Sp.mem p1 (S := (· ∈ F)) hq (h.on q hq)) hv (by rw [hz]; exact .zero)
theorem sub_rest {F : List (List Int)} (h : Steps P wd F) {v : List Int} (hv : RowOn P wd v) : Sp P wd (· ∈ F) (lessV P v (restBy P F v) 1) := by
  have ro := rest_on (P := P) (show 0 < P by omega) h.on hv.1 hv.2
  refine null_of_rest p1 h (less_on p1 hv.1 ro.1) ?_
  rw [rest_lin p1 h.on h.lt hv.1 ro.1, rest_idem p1 h.on ro (rest_leads p1 h hv)]
  exact less_self p1 ro
end
section
variable {P : Int} {wd : Nat} {rows : List (List Int)} (hp : Prm P) (hr : RowsOn P wd rows)
include hp hr
/-- what is left of a goal with the weights 0 -/
def leftOf (P : Int) (rows : List (List Int)) (goal : List Int) : List Int := restBy P (withWeights P rows) (goal ++ zeroV rows.length)
theorem goal_on {goal : List Int} (hg : RowOn P wd goal) : RowOn P (wd + rows.length) (goal ++ zeroV rows.length) := by
  have p1 := hp.one
  refine ⟨by rw [List.length_append, hg.1]; simp, fun y hy => ?_⟩
  rcases List.mem_append.mp hy with z | z
  · exact hg.2 y z
  · exact (zero_on p1 (wd := rows.length)).2 y z
theorem left_on {goal : List Int} (hg : RowOn P wd goal) : RowOn P (wd + rows.length) (leftOf P rows goal) := by
  have p1 := hp.one
  have q := goal_on hp hr hg
  exact rest_on (by omega) (ww_steps hp hr).1.on q.1 q.2
theorem goal_get {goal : List Int} (hg : RowOn P wd goal) {j : Nat} (hj : j < wd) : (goal ++ zeroV rows.length).getD j 0 = goal.getD j 0 := app_get (by rw [hg.1]; exact hj)
theorem goal_get2 {goal : List Int} (hg : RowOn P wd goal) {i : Nat} : (goal ++ zeroV rows.length).getD (wd + i) 0 = 0 := by
  have := app_get2 (a := goal) (b := zeroV rows.length) (j := i)
  rw [hg.1] at this
  rw [this, rep_get]
/-- the weights told -/
def toldW (P : Int) (wd : Nat) (rows : List (List Int)) (goal : List Int) : List Int := ((leftOf P rows goal).drop wd).map fun x => (0 - x) % P
theorem told_ok {goal : List Int} (hg : RowOn P wd goal) (hl : wd ≤ lead (leftOf P rows goal)) : RowOn P rows.length (toldW P wd rows goal) ∧ ∀ j, j < wd → Em P (goal.getD j 0) (sm rows.length fun i => (toldW P wd rows goal).getD i 0 * (rows.getD i []).getD j 0) := by
  have p1 := hp.one
  have lo := left_on hp hr hg
  have go := goal_on hp hr hg
  obtain ⟨a, b⟩ := ww_steps hp hr
  refine ⟨⟨by unfold toldW; rw [List.length_map]; exact (drop_on lo).1, fun y hy => ?_⟩, fun j hj => ?_⟩
  · obtain ⟨z, _, rfl⟩ := List.mem_map.mp hy
    exact ⟨Int.emod_nonneg _ (by omega), Int.emod_lt_of_pos _ (by omega)⟩
  · have s := (b _).mp (sub_rest p1 a go)
    have e := ext_comb hp hr s j hj
    have f0 : (leftOf P rows goal).getD j 0 = 0 := fr_lead hp hr lo.1 hl j hj
    have e1 : (lessV P (goal ++ zeroV rows.length) (leftOf P rows goal) 1).getD j 0 = goal.getD j 0 := by
      rw [lessV_get (by rw [lo.1, go.1]) (by rw [go.1]; omega), f0, goal_get hp hr hg hj, Int.mul_zero, Int.sub_zero]
      exact emod_on (on_get hg.2 (by rw [hg.1]; exact hj))
    rw [show restBy P (withWeights P rows) (goal ++ zeroV rows.length) = leftOf P rows goal from rfl, e1] at e
    refine e.trans (Em.of_eq (sm_congr fun i hi => ?_))
    congr 1
    rw [lessV_get (by rw [lo.1, go.1]) (by rw [go.1]; omega), goal_get2 hp hr hg, Int.one_mul]
    unfold toldW
    rw [getD_map _ 0 0 (by rw [(drop_on lo).1]; exact hi), drop_get]
theorem left_in {goal : List Int} (hg : Sp P wd (· ∈ rows) goal) : wd ≤ lead (leftOf P rows goal) := by
  have p1 := hp.one
  have hgo := hg.on p1 fun r h => (hr r h).1
  have lo := left_on hp hr hgo
  have go := goal_on hp hr hgo
  obtain ⟨a, b⟩ := ww_steps hp hr
  obtain ⟨v, hv, hf⟩ := ext_lift hp hr hg
  have von := hv.on p1 (ext_len hp hr)
  have d0 : ∀ j, j < wd → (lessV P (goal ++ zeroV rows.length) v 1).getD j 0 = 0 := fun j hj => by
    rw [lessV_get (by rw [von.1, go.1]) (by rw [go.1]; omega), goal_get hp hr hgo hj, hf j hj, Int.one_mul, Int.sub_self]
    rfl
  have e := (fr_rest hp hr a (less_on p1 (c := 1) go.1 von.1) d0).2
  rw [rest_lin p1 a.on a.lt go.1 von.1, rest_null p1 a ((b v).mpr hv), show restBy P (withWeights P rows) (goal ++ zeroV rows.length) = leftOf P rows goal from rfl, less_zero p1 lo] at e
  exact lead_fr hp hr lo.1 e
theorem rest_in {goal : List Int} (hg : RowOn P wd goal) (h : ¬ lead (restBy P (stepsForm P rows) goal) < wd) : Sp P wd (· ∈ rows) goal := by
  have p1 := hp.one
  obtain ⟨a, b, c⟩ := stepsForm_ok hp hr
  have ro := rest_on (P := P) (show 0 < P by omega) a.on hg.1 hg.2
  have hz : restBy P (stepsForm P rows) goal = zeroV wd := by
    have := lead_le (restBy P (stepsForm P rows) goal)
    rw [lead_zero (r := restBy P (stepsForm P rows) goal) (by omega), ro.1]
  exact (null_of_rest p1 a hg hz).bind p1 a.hS (fun r h => (hr r h).1) b
theorem shut_in {goal : List Int} (hg : RowOn P wd goal) (hl : lead (leftOf P rows goal) < wd) : lead (restBy P (stepsForm P rows) goal) < wd := by
  refine Classical.byContradiction fun h => ?_
  have := left_in hp hr (rest_in hp hr hg h)
  omega
end
/-! what shuts off -/
def dotV (wd : Nat) (z v : List Int) : Int := sm wd fun j => z.getD j 0 * v.getD j 0
theorem getD_set' {α : Type} {l : List α} {i j : Nat} {v z : α} (h : j < l.length) : (l.set i v).getD j z = if i = j then v else l.getD j z := by
  rw [List.getD_eq_getElem?_getD, List.getElem?_set, List.getD_eq_getElem?_getD]
  by_cases e : i = j
  · subst e; rw [if_pos rfl, if_pos rfl, if_pos h]; rfl
  · rw [if_neg e, if_neg e]
theorem dot_set {wd x : Nat} {z v : List Int} {c : Int} (hz : z.length = wd) (hx : x < wd) (h0 : z.getD x 0 = 0) : dotV wd (z.set x c) v = dotV wd z v + c * v.getD x 0 := by
  unfold dotV
  have e : (sm wd fun j => (z.set x c).getD j 0 * v.getD j 0) = sm wd fun j => z.getD j 0 * v.getD j 0 + if j = x then c * v.getD j 0 else 0 :=
    sm_congr fun j hj => by
      rw [getD_set' (by omega)]
      by_cases h : x = j
      · subst h
        rw [if_pos rfl, if_pos rfl, h0]
        omega
      · rw [if_neg h, if_neg (fun z => h z.symm), Int.add_zero]
  rw [e, sm_add, sm_pick, if_pos hx]
theorem dot_fold {wd : Nat} {g : List Int → Int} {v : List Int} : ∀ {F : List (List Int)} {r : List Int}, r.length = wd → (∀ q ∈ F, lead q < wd) → F.Pairwise (fun a b => lead a < lead b) → (∀ q ∈ F, r.getD (lead q) 0 = 0) →
    dotV wd (F.foldl (fun r one => r.set (lead one) (g one)) r) v = dotV wd r v + (F.map fun q => g q * v.getD (lead q) 0).sum
  | [], r, _, _, _, _ => by simp
  | one :: F, r, hr, hl, hi, h0 => by
    obtain ⟨i1, i2⟩ := List.pairwise_cons.mp hi
    have l1 := hl one List.mem_cons_self
    show dotV wd (F.foldl (fun r one => r.set (lead one) (g one)) (r.set (lead one) (g one))) v = _
    rw [dot_fold (by rw [List.length_set]; exact hr) (fun q hq => hl q (List.mem_cons_of_mem _ hq)) i2 fun q hq => ?_, dot_set hr l1 (h0 one List.mem_cons_self), List.map_cons, List.sum_cons, Int.add_assoc]
    rw [getD_set' (by have := hl q (List.mem_cons_of_mem _ hq); omega), if_neg (by have := i1 q hq; omega)]
    exact h0 q (List.mem_cons_of_mem _ hq)
theorem sum_zero {F : List (List Int)} {g : List Int → Int} (h : ∀ q ∈ F, g q = 0) : (F.map g).sum = 0 := by
  induction F with
  | nil => rfl
  | cons a F ih => rw [List.map_cons, List.sum_cons, h a List.mem_cons_self, ih fun q hq => h q (List.mem_cons_of_mem _ hq)]; rfl
theorem sum_pick {P : Int} {wd : Nat} {g : List Int → Int} : ∀ {F : List (List Int)}, Steps P wd F → ∀ r ∈ F, (F.map fun q => g q * r.getD (lead q) 0).sum = g r
  | one :: F, h, r, hr => by
    rw [List.map_cons, List.sum_cons]
    rcases List.mem_cons.mp hr with rfl | hr
    · rw [h.one r List.mem_cons_self, sum_zero fun q hq => by rw [h.clr r List.mem_cons_self q (List.mem_cons_of_mem _ hq) (by have := h.ne q hq; omega), Int.mul_zero]]
      omega
    · rw [h.clr r (List.mem_cons_of_mem _ hr) one List.mem_cons_self (by have := h.ne r hr; omega), sum_pick h.tail r hr]
      omega
theorem dot_less {P : Int} {wd : Nat} {z v u : List Int} {c : Int} (hv : v.length = wd) (hu : u.length = wd) : Em P (dotV wd z (lessV P v u c)) (dotV wd z v - c * dotV wd z u) := by
  unfold dotV
  have e1 : Em P (sm wd fun j => z.getD j 0 * (lessV P v u c).getD j 0) (sm wd fun j => z.getD j 0 * v.getD j 0 + -c * (z.getD j 0 * u.getD j 0)) := Em.sm fun j hj => (Em.refl.mul (less_em hv hu hj)).trans (Em.of_eq (by grind))
  refine e1.trans (Em.of_eq ?_)
  rw [sm_add, sm_mulL]
  grind
theorem dot_zero {wd : Nat} {z : List Int} : dotV wd z (zeroV wd) = 0 := by
  unfold dotV
  rw [show (sm wd fun j => z.getD j 0 * (zeroV wd).getD j 0) = sm wd fun _ => 0 from sm_congr fun j _ => by rw [rep_get, Int.mul_zero]]
  exact sm_zero
theorem dot_sp {P : Int} {wd : Nat} {z v : List Int} {S : List Int → Prop} (p1 : 1 < P) (hS : ∀ r, S r → r.length = wd) (h : ∀ r, S r → Em P (dotV wd z r) 0) (hv : Sp P wd S v) : Em P (dotV wd z v) 0 := by
  induction hv with
  | zero => rw [dot_zero]; exact Em.refl
  | @step v r c a b ih =>
    refine (dot_less (a.on p1 hS).1 (hS _ b)).trans ((ih.sub (Em.refl.mul (h _ b))).trans (Em.of_eq ?_))
    omega
section
variable {P : Int} {wd : Nat} (hp : Prm P)
include hp
theorem set_on {r : List Int} {x : Nat} {c : Int} (h : OnW P r) (h0 : 0 ≤ c) (h1 : c < P) : OnW P (r.set x c) := fun y hy => by
  rcases List.mem_or_eq_of_mem_set hy with z | z
  · exact h y z
  · rw [z]; exact ⟨h0, h1⟩
theorem shutRow_ok {F : List (List Int)} {left : List Int} (h : Steps P wd F) (hl : RowOn P wd left) (ha : lead left < wd) (hz : ∀ q ∈ F, left.getD (lead q) 0 = 0) :
    RowOn P wd (shutRow P F left) ∧ (∀ q ∈ F, Em P (dotV wd (shutRow P F left) q) 0) ∧ Em P (dotV wd (shutRow P F left) left) 1 := by
  have p1 := hp.one
  have nz := (lead_lt (r := left) (by rw [hl.1]; exact ha)).2
  have hm : left.getD (lead left) 0 % P ≠ 0 := by
    rw [emod_on (on_get hl.2 (by rw [hl.1]; exact ha))]
    exact nz
  obtain ⟨b0, b1, b2⟩ := back_ok hp hm
  have hne : ∀ q ∈ F, lead left ≠ lead q := fun q hq e => nz (by rw [e]; exact hz q hq)
  have zl : ((zeroV left.length).set (lead left) (backN P (left.getD (lead left) 0))).length = wd := by rw [List.length_set]; simp [hl.1]
  have dot : ∀ v, dotV wd (shutRow P F left) v = backN P (left.getD (lead left) 0) * v.getD (lead left) 0 + (F.map fun q => (0 - backN P (left.getD (lead left) 0) * q.getD (lead left) 0) % P * v.getD (lead q) 0).sum := fun v => by
    unfold shutRow
    rw [dot_fold (g := fun one => (0 - backN P (left.getD (lead left) 0) * one.getD (lead left) 0) % P) zl h.lt h.inc fun q hq => ?_]
    · rw [dot_set (by simp [hl.1]) ha rep_get]
      have : dotV wd (zeroV left.length) v = 0 := by
        unfold dotV
        rw [show (sm wd fun j => (zeroV left.length).getD j 0 * v.getD j 0) = sm wd fun _ => 0 from sm_congr fun j _ => by rw [rep_get, Int.zero_mul]]
        exact sm_zero
      rw [this, Int.zero_add]
    · rw [getD_set' (by have := h.lt q hq; simp [hl.1]; omega), if_neg (hne q hq), rep_get]
  refine ⟨⟨?_, ?_⟩, fun q hq => ?_, ?_⟩
  · unfold shutRow
    rw [shut_len (g := fun one => (0 - backN P (left.getD (lead left) 0) * one.getD (lead left) 0) % P)]
    exact zl
  · unfold shutRow
    have key : ∀ {F : List (List Int)} {r : List Int}, OnW P r → OnW P (F.foldl (fun r one => r.set (lead one) ((0 - backN P (left.getD (lead left) 0) * one.getD (lead left) 0) % P)) r) := by
      intro F
      induction F with
      | nil => exact fun h => h
      | cons one F ih => exact fun h => ih (set_on hp h (Int.emod_nonneg _ (by omega)) (Int.emod_lt_of_pos _ (by omega)))
    exact key (set_on hp (zero_on p1).2 b0 b1)
  · rw [dot q, sum_pick (g := fun q => (0 - backN P (left.getD (lead left) 0) * q.getD (lead left) 0) % P) h q hq]
    refine (Em.refl.add Em.mod).trans (Em.of_eq ?_)
    omega
  · rw [dot left, sum_zero fun q hq => by rw [hz q hq, Int.mul_zero], Int.add_zero]
    show _ % P = 1 % P
    rw [b2, Int.emod_eq_of_lt (by omega) p1]
theorem shutOff_ok {rows : List (List Int)} {goal : List Int} (hr : RowsOn P wd rows) (hg : RowOn P wd goal) (hl : lead (restBy P (stepsForm P rows) goal) < wd) :
    RowOn P wd (shutOff P rows goal) ∧ (∀ q ∈ rows, Em P (dotV wd (shutOff P rows goal) q) 0) ∧ Em P (dotV wd (shutOff P rows goal) goal) 1 := by
  have p1 := hp.one
  obtain ⟨a, b, c⟩ := stepsForm_ok hp hr
  have ro := rest_on (P := P) (show 0 < P by omega) a.on hg.1 hg.2
  obtain ⟨x, y, z⟩ := shutRow_ok hp a ro hl (rest_leads p1 a hg)
  have n : ∀ v, Sp P wd (· ∈ stepsForm P rows) v → Em P (dotV wd (shutOff P rows goal) v) 0 := fun v hv => dot_sp p1 a.hS y hv
  refine ⟨x, fun q hq => n q (c q hq), ?_⟩
  have e := n _ (sub_rest p1 a hg)
  have e2 := (dot_less (P := P) (z := shutOff P rows goal) (c := 1) hg.1 ro.1).symm.trans e
  have z : Em P (dotV wd (shutOff P rows goal) (restBy P (stepsForm P rows) goal)) 1 := z
  have e3 := e2.add z
  refine Em.trans (Em.of_eq ?_) (e3.trans (Em.of_eq ?_))
  · omega
  · omega
end
end W

namespace W
section
variable {P : Int} {wd : Nat} {rows : List (List Int)} (hp : Prm P) (hr : RowsOn P wd rows)
include hp hr
/-- weights that bring the rows to nothing: closed -/
theorem null_less {v u : List Int} {c : Int} (hv : v.length = rows.length) (hu : u.length = rows.length) {j : Nat} (h1 : Em P 0 (sm rows.length fun i => v.getD i 0 * (rows.getD i []).getD j 0)) (h2 : Em P 0 (sm rows.length fun i => u.getD i 0 * (rows.getD i []).getD j 0)) :
    Em P 0 (sm rows.length fun i => (lessV P v u c).getD i 0 * (rows.getD i []).getD j 0) := by
  have e1 : Em P (sm rows.length fun i => (lessV P v u c).getD i 0 * (rows.getD i []).getD j 0) (sm rows.length fun i => v.getD i 0 * (rows.getD i []).getD j 0 + -c * (u.getD i 0 * (rows.getD i []).getD j 0)) := Em.sm fun i hi => ((less_em hv hu hi).mul Em.refl).trans (Em.of_eq (by grind))
  refine Em.trans ?_ e1.symm
  rw [sm_add, sm_mulL]
  refine Em.trans (Em.of_eq ?_) (h1.add ((Em.refl (a := -c)).mul h2))
  omega
theorem null_sp {v : List Int} (hv : Sp P rows.length (· ∈ idleSums P wd rows) v) : RowOn P rows.length v ∧ ∀ j, j < wd → Em P 0 (sm rows.length fun i => v.getD i 0 * (rows.getD i []).getD j 0) := by
  have p1 := hp.one
  have hS : ∀ r, r ∈ idleSums P wd rows → r.length = rows.length := fun r h => (idle_null hp hr h).1
  refine ⟨hv.on p1 hS, ?_⟩
  induction hv with
  | zero =>
    intro j _
    rw [show (sm rows.length fun i => (zeroV rows.length).getD i 0 * (rows.getD i []).getD j 0) = sm rows.length fun _ => 0 from sm_congr fun i _ => by rw [rep_get, Int.zero_mul], sm_zero]
    exact Em.refl
  | @step v r c a b ih =>
    intro j hj
    exact null_less hp hr (a.on p1 hS).1 (hS _ b) (ih j hj) ((idle_null hp hr b).2.2 j hj)
/-- weights of any kind are the end of what comes of the longer rows -/
theorem ext_any {w : List Int} (hw : RowOn P rows.length w) : ∃ v, Sp P (wd + rows.length) (· ∈ extRows rows) v ∧ ∀ i, i < rows.length → v.getD (wd + i) 0 = w.getD i 0 := by
  have p1 := hp.one
  have key : ∀ k, k ≤ rows.length → ∃ v, Sp P (wd + rows.length) (· ∈ extRows rows) v ∧ ∀ i, i < rows.length → v.getD (wd + i) 0 = if i < k then w.getD i 0 else 0 := fun k => by
    induction k with
    | zero => exact fun _ => ⟨_, .zero, fun i _ => by rw [rep_get, if_neg (by omega)]⟩
    | succ k ih =>
      intro hk
      obtain ⟨v, hv, e⟩ := ih (by omega)
      have em : extRow rows k ∈ extRows rows := List.mem_map.mpr ⟨k, List.mem_range.mpr (by omega), rfl⟩
      refine ⟨_, .step (c := -(w.getD k 0)) hv em, fun i hi => ?_⟩
      have lv := (hv.on p1 (ext_len hp hr)).1
      have lr := ext_len hp hr _ em
      rw [lessV_get (by rw [lv, lr]) (by omega), ext_tail hp hr (by omega) hi, e i hi]
      have hwi := on_get hw.2 (j := i) (by rw [hw.1]; exact hi)
      by_cases h1 : i = k
      · subst h1
        rw [if_neg (by omega), if_pos rfl, if_pos (by omega)]
        have : (0 - -(w.getD i 0) * 1) = w.getD i 0 := by omega
        rw [this]
        exact emod_on hwi
      · rw [if_neg h1]
        by_cases h2 : i < k
        · rw [if_pos h2, if_pos (by omega), Int.mul_zero, Int.sub_zero]
          exact emod_on hwi
        · rw [if_neg h2, if_neg (by omega), Int.mul_zero]
          rfl
  obtain ⟨v, hv, e⟩ := key rows.length (Nat.le_refl _)
  exact ⟨v, hv, fun i hi => by rw [e i hi, if_pos hi]⟩
/-- weights that bring the rows to nothing are left as nothing by the idle sums -/
theorem idle_rest {w : List Int} (hw : RowOn P rows.length w) (h : ∀ j, j < wd → Em P 0 (sm rows.length fun i => w.getD i 0 * (rows.getD i []).getD j 0)) : restBy P (idleSums P wd rows) w = zeroV rows.length := by
  have p1 := hp.one
  obtain ⟨a, b⟩ := ww_steps hp hr
  obtain ⟨v, hv, e⟩ := ext_any hp hr hw
  have von := hv.on p1 (ext_len hp hr)
  have f0 : ∀ j, j < wd → v.getD j 0 = 0 := fun j hj => by
    have q := ext_comb hp hr hv j hj
    have q2 : Em P (sm rows.length fun i => v.getD (wd + i) 0 * (rows.getD i []).getD j 0) (sm rows.length fun i => w.getD i 0 * (rows.getD i []).getD j 0) := Em.of_eq (sm_congr fun i hi => by rw [e i hi])
    have q3 := (q.trans (q2.trans (h j hj).symm))
    have q4 := on_get von.2 (j := j) (by rw [von.1]; omega)
    exact q3.eq q4.1 q4.2 (by omega) (by omega)
  have r0 := rest_null p1 a ((b v).mpr hv)
  rw [(fr_rest hp hr a von f0).1] at r0
  have d := drop_rest hp hr (F := (withWeights P rows).filter fun r => decide (wd ≤ lead r)) (fun q hq => a.on q (List.mem_filter.mp hq).1) (fun q hq => ⟨of_decide_eq_true (List.mem_filter.mp hq).2, a.lt q (List.mem_filter.mp hq).1⟩) von
  rw [r0] at d
  have ev : v.drop wd = w := ext_getD 0 (by rw [(drop_on von).1, hw.1]) fun i hi => by
    rw [(drop_on von).1] at hi
    rw [drop_get]
    exact e i hi
  rw [ev] at d
  rw [show restBy P (idleSums P wd rows) w = restBy P (((withWeights P rows).filter fun r => decide (wd ≤ lead r)).map (List.drop wd)) w from rfl, ← d]
  refine ext_getD 0 (by simp) fun i hi => ?_
  rw [drop_get, rep_get, rep_get]
/-! how many -/
theorem ext_take {k : Nat} (hk : k < rows.length) {v : List Int} (hv : Sp P (wd + rows.length) (· ∈ (extRows rows).take k) v) : v.getD (wd + k) 0 = 0 := by
  have p1 := hp.one
  have hS : ∀ r, r ∈ (extRows rows).take k → r.length = wd + rows.length := fun r h => ext_len hp hr r (List.mem_of_mem_take h)
  induction hv with
  | zero => exact rep_get
  | @step v r c a b ih =>
    have b2 : r ∈ (List.range rows.length).map (extRow rows) := List.mem_of_mem_take b
    obtain ⟨i, hi, hi2⟩ := List.mem_iff_getElem.mp b
    rw [List.length_take, extRows_len] at hi
    have e : r = extRow rows i := by
      rw [← hi2, List.getElem_take]
      unfold extRows
      rw [List.getElem_map, List.getElem_range]
    rw [lessV_get (by rw [(a.on p1 hS).1, hS _ b]) (by rw [(a.on p1 hS).1]; omega), ih, e, ext_tail hp hr (by omega) hk, if_neg (by omega), Int.mul_zero]
    rfl
theorem ww_len : (withWeights P rows).length = rows.length := by
  have p1 := hp.one
  have hE := extRows_on p1 hr
  have hl := extRows_len rows
  have key : ∀ k, k ≤ rows.length → (stepsForm P ((extRows rows).take k)).length = k := fun k => by
    induction k with
    | zero => exact fun _ => by rw [List.take_zero]; rfl
    | succ k ih =>
      intro hk
      have hk2 : k < (extRows rows).length := by omega
      rw [steps_snoc hk2]
      have st := steps_take hp hE k
      have ek : (extRows rows)[k] = extRow rows k := by
        have q : (extRows rows)[k]? = some (extRow rows k) := by
          unfold extRows
          rw [List.getElem?_map, List.getElem?_range (by omega)]
          rfl
        rw [List.getElem?_eq_getElem hk2] at q
        exact Option.some.inj q
      have eon := hE _ (List.getElem_mem hk2)
      have hne : ¬ lead (restBy P (stepsForm P ((extRows rows).take k)) (extRows rows)[k]) = (restBy P (stepsForm P ((extRows rows).take k)) (extRows rows)[k]).length := fun z => by
        have ro := rest_on (P := P) (show 0 < P by omega) st.on eon.1 eon.2
        have z2 := lead_zero z
        rw [ro.1] at z2
        have s1 := W.null_of_rest p1 st eon z2
        have s2 := s1.bind p1 st.hS (S' := (· ∈ (extRows rows).take k)) (fun r h => ext_len hp hr r (List.mem_of_mem_take h)) (stepsForm_ok hp fun q hq => hE q (List.mem_of_mem_take hq)).2.1
        have s3 := ext_take hp hr (show k < rows.length by omega) s2
        rw [ek, ext_tail hp hr (by omega) (by omega), if_pos rfl] at s3
        cases s3
      unfold withRow
      rw [if_neg hne]
      unfold addRow
      rw [List.length_mergeSort, List.length_append, List.length_map, List.length_singleton, ih (by omega)]
  have := key rows.length (Nat.le_refl _)
  unfold withWeights
  rw [← this]
  congr 2
  rw [List.take_of_length_le (by omega)]
/-- the fronts of the longer rows' steps form -/
def fronts (P : Int) (wd : Nat) (rows : List (List Int)) : List (List Int) := ((withWeights P rows).filter fun r => !decide (wd ≤ lead r)).map (List.take wd)
theorem take_less {v r : List Int} {c : Int} (hv : v.length = wd + rows.length) (hr2 : r.length = wd + rows.length) : (lessV P v r c).take wd = lessV P (v.take wd) (r.take wd) c := by
  refine ext_getD 0 ?_ fun i hi => ?_
  · rw [List.length_take, lessV_len (by omega), lessV_len (by rw [List.length_take, List.length_take]; omega), List.length_take]
  · rw [List.length_take, lessV_len (by omega)] at hi
    rw [take_get (by omega), lessV_get (by omega) (by omega), lessV_get (by rw [List.length_take, List.length_take]; omega) (by rw [List.length_take]; omega), take_get (by omega), take_get (by omega)]
theorem take_zero : (zeroV (wd + rows.length)).take wd = zeroV wd := by
  rw [List.take_replicate]
  congr 1
  omega
theorem front_sp {v : List Int} (hv : Sp P (wd + rows.length) (· ∈ extRows rows) v) : Sp P wd (· ∈ rows) (v.take wd) := by
  have p1 := hp.one
  induction hv with
  | zero => rw [take_zero hp hr]; exact .zero
  | @step v r c a b ih =>
    rw [take_less hp hr (a.on p1 (ext_len hp hr)).1 (ext_len hp hr _ b)]
    obtain ⟨k, hk, rfl⟩ := List.mem_map.mp b
    have hk := List.mem_range.mp hk
    have e : (extRow rows k).take wd = rows.getD k [] := by
      unfold extRow
      rw [List.take_append_of_le_length (by rw [(hr _ (getD_mem (z := []) hk)).1]; omega), List.take_of_length_le (by rw [(hr _ (getD_mem (z := []) hk)).1]; omega)]
    rw [e]
    exact .step ih (getD_mem hk)
theorem front_ps {v : List Int} (hv : Sp P (wd + rows.length) (· ∈ withWeights P rows) v) : Sp P wd (· ∈ fronts P wd rows) (v.take wd) := by
  have p1 := hp.one
  obtain ⟨a, _⟩ := ww_steps hp hr
  have fl : ∀ r, r ∈ fronts P wd rows → r.length = wd := fun r h => by
    obtain ⟨x, hx, rfl⟩ := List.mem_map.mp h
    exact (take_on (a.on x (List.mem_filter.mp hx).1)).1
  induction hv with
  | zero => rw [take_zero hp hr]; exact .zero
  | @step v r c x b ih =>
    rw [take_less hp hr (x.on p1 a.hS).1 (a.hS _ b)]
    by_cases h : wd ≤ lead r
    · have e : r.take wd = zeroV wd := ext_getD 0 (by rw [(take_on (a.on r b)).1]; simp) fun i hi => by
        rw [(take_on (a.on r b)).1] at hi
        rw [take_get hi, rep_get]
        exact fr_lead hp hr (a.hS _ b) h i hi
      rw [e, less_zero p1 (ih.on p1 fl)]
      exact ih
    · exact .step ih (List.mem_map.mpr ⟨r, List.mem_filter.mpr ⟨b, by simpa using h⟩, rfl⟩)
omit hp hr in
theorem lead_take {n : Nat} {v : List Int} (hv : v.length = wd + n) (h : lead v < wd) : lead (v.take wd) = lead v := by
  obtain ⟨x, y⟩ := lead_lt (r := v) (by omega)
  refine lead_eq (by rw [List.length_take]; omega) (fun i hi => ?_) ?_
  · rw [take_get (by omega)]; exact x i hi
  · rw [take_get h]; exact y
theorem fronts_steps : Steps P wd (fronts P wd rows) := by
  obtain ⟨a, _⟩ := ww_steps hp hr
  have mem : ∀ w, w ∈ fronts P wd rows → ∃ v ∈ withWeights P rows, lead v < wd ∧ w = v.take wd ∧ lead w = lead v := fun w hw => by
    obtain ⟨v, hv, rfl⟩ := List.mem_map.mp hw
    obtain ⟨hv1, hv2⟩ := List.mem_filter.mp hv
    have hl : lead v < wd := by simpa using hv2
    exact ⟨v, hv1, hl, rfl, lead_take (a.on v hv1).1 hl⟩
  refine ⟨fun w hw => ?_, fun w hw => ?_, fun w hw => ?_, fun w hw u hu => ?_, ?_⟩
  · obtain ⟨v, hv, _, rfl, _⟩ := mem w hw
    exact take_on (a.on v hv)
  · obtain ⟨v, hv, hl, rfl, e⟩ := mem w hw
    omega
  · obtain ⟨v, hv, hl, rfl, e⟩ := mem w hw
    rw [e, take_get hl]
    exact a.one v hv
  · obtain ⟨v, hv, hl, rfl, e⟩ := mem w hw
    obtain ⟨x, hx, hl2, rfl, e2⟩ := mem u hu
    rw [e, e2]
    intro hne
    rw [take_get hl2]
    exact a.clr v hv x hx hne
  · unfold fronts
    rw [List.pairwise_map]
    refine ((a.inc.filter _).imp_of_mem fun {x y} hx hy h => ?_)
    obtain ⟨hx1, hx2⟩ := List.mem_filter.mp hx
    obtain ⟨hy1, hy2⟩ := List.mem_filter.mp hy
    rw [lead_take (a.on x hx1).1 (by simpa using hx2), lead_take (a.on y hy1).1 (by simpa using hy2)]
    exact h
theorem fronts_eq : fronts P wd rows = stepsForm P rows := by
  have p1 := hp.one
  obtain ⟨a, b⟩ := ww_steps hp hr
  obtain ⟨s, s1, s2⟩ := stepsForm_ok hp hr
  have f := fronts_steps hp hr
  have hR : ∀ r, r ∈ rows → r.length = wd := fun r h => (hr r h).1
  refine steps_uniq p1 f s (fun g hg => ?_) fun g hg => ?_
  · obtain ⟨v, hv, e⟩ := ext_lift hp hr (s1 g hg)
    have q := front_ps hp hr ((b v).mpr hv)
    have von := hv.on p1 (ext_len hp hr)
    have : v.take wd = g := ext_getD 0 (by rw [(take_on von).1, s.hS _ hg]) fun i hi => by
      rw [(take_on von).1] at hi
      rw [take_get hi]
      exact e i hi
    rwa [this] at q
  · obtain ⟨v, hv, rfl⟩ := List.mem_map.mp hg
    have hv1 := (List.mem_filter.mp hv).1
    exact (front_sp hp hr ((b v).mp (Sp.mem p1 (S := (· ∈ withWeights P rows)) hv1 (a.on v hv1)))).bind p1 hR s.hS s2
theorem idle_count : (idleSums P wd rows).length + (stepsForm P rows).length = rows.length := by
  rw [← fronts_eq hp hr, ← ww_len hp hr]
  unfold idleSums fronts
  rw [List.length_map, List.length_map]
  have := List.length_eq_countP_add_countP (fun r => decide (wd ≤ lead r)) (l := withWeights P rows)
  rw [List.countP_eq_length_filter, List.countP_eq_length_filter] at this
  rw [this]
  congr 2
  refine List.filter_congr fun x _ => ?_
  by_cases h : wd ≤ lead x
  · simp [h]
  · simp [h]
end
end W

namespace W
open PySem PySem.Spec PyProof.Rows L2 LR
def solvedD (P : Int) (wd : Nat) (rows : List (List Int)) (goal : List Int) : PyData := if lead (leftOf P rows goal) < wd then .tuple [.str "shut", tI (shutOff P rows goal)] else .tuple [.str "sum", tI (toldW P wd rows goal)]
section
variable {P : Program} {w : World} {K : PySem.W.Frag} {mg : Str → Option Value} {base : Heap}
inductive rSolved : List PyData → Res → Prop
  | mk {p : Int} {wd : Nat} {rows : List (List Int)} {goal : List Int} (hp : Prm p) (hr : RowsOn p wd rows) (hg : RowOn p wd goal) (h : wd ≤ 100) (hz : rows.length ≤ 100) : rSolved [.int p, lT rows, tI goal] (.ok (.dat (solvedD p wd rows goal)))
local macro_rules | `(tactic| wtm_at "R") => `(tactic| first
  | ((with_reducible apply rLead.mk) <;> first | (with_reducible assumption) | omega)
  | (constructor; all_goals try (wtm_at "sd")))
local macro_rules | `(tactic| wtm_at "nm") => `(tactic| first
  | ((with_reducible show Ev _ _ (.Name "P" _) _); exact nmF (by assumption) 0 (by rfl) rfl (by decide +kernel) (by decide +kernel) (by decide +kernel))
  | ((with_reducible show Ev _ _ (.Name "rows" _) _); exact nmF (by assumption) 1 (by rfl) rfl (by decide +kernel) (by decide +kernel) (by decide +kernel))
  | ((with_reducible show Ev _ _ (.Name "goal" _) _); exact nmF (by assumption) 2 (by rfl) rfl (by decide +kernel) (by decide +kernel) (by decide +kernel))
  | ((with_reducible show Ev _ _ (.Name "wide" _) _); exact nmF (by assumption) 3 (by rfl) rfl (by decide +kernel) (by decide +kernel) (by decide +kernel))
  | ((with_reducible show Ev _ _ (.Name "left" _) _); exact nmF (by assumption) 4 (by rfl) rfl (by decide +kernel) (by decide +kernel) (by decide +kernel))
  | ((with_reducible show Ev _ _ (.Name "x" _) _); exact nmF (by assumption) 5 (by rfl) rfl (by decide +kernel) (by decide +kernel) (by decide +kernel)))
local macro_rules | `(tactic| wtm_at "own") => `(tactic| first
  | ((with_reducible show EvS _ _ (.Name "P" _) _ _); exact ownF (by assumption) 0 (by rfl) rfl (by decide +kernel) (by decide +kernel) (by decide +kernel))
  | ((with_reducible show EvS _ _ (.Name "rows" _) _ _); exact ownF (by assumption) 1 (by rfl) rfl (by decide +kernel) (by decide +kernel) (by decide +kernel))
  | ((with_reducible show EvS _ _ (.Name "goal" _) _ _); exact ownF (by assumption) 2 (by rfl) rfl (by decide +kernel) (by decide +kernel) (by decide +kernel))
  | ((with_reducible show EvS _ _ (.Name "wide" _) _ _); exact ownF (by assumption) 3 (by rfl) rfl (by decide +kernel) (by decide +kernel) (by decide +kernel))
  | ((with_reducible show EvS _ _ (.Name "left" _) _ _); exact ownF (by assumption) 4 (by rfl) rfl (by decide +kernel) (by decide +kernel) (by decide +kernel))
  | ((with_reducible show EvS _ _ (.Name "x" _) _ _); exact ownF (by assumption) 5 (by rfl) rfl (by decide +kernel) (by decide +kernel) (by decide +kernel)))
local macro_rules | `(tactic| wtm_at "ownl") => `(tactic| first
  | ((with_reducible show EvL _ _ (.Name "P" _) _); exact ownlF (by assumption) 0 (by rfl) rfl (by decide +kernel) (by decide +kernel) (by decide +kernel))
  | ((with_reducible show EvL _ _ (.Name "rows" _) _); exact ownlF (by assumption) 1 (by rfl) rfl (by decide +kernel) (by decide +kernel) (by decide +kernel))
  | ((with_reducible show EvL _ _ (.Name "goal" _) _); exact ownlF (by assumption) 2 (by rfl) rfl (by decide +kernel) (by decide +kernel) (by decide +kernel))
  | ((with_reducible show EvL _ _ (.Name "wide" _) _); exact ownlF (by assumption) 3 (by rfl) rfl (by decide +kernel) (by decide +kernel) (by decide +kernel))
  | ((with_reducible show EvL _ _ (.Name "left" _) _); exact ownlF (by assumption) 4 (by rfl) rfl (by decide +kernel) (by decide +kernel) (by decide +kernel))
  | ((with_reducible show EvL _ _ (.Name "x" _) _); exact ownlF (by assumption) 5 (by rfl) rfl (by decide +kernel) (by decide +kernel) (by decide +kernel)))
local macro_rules | `(tactic| wtm_at "set") => `(tactic| first
  | ((with_reducible show S1 _ _ (.Assign [.Name "P" _] _ _) _); refine' setF ?st1 ?st2 0 ?st3 ?st4 ?ste ?st5; (case' st1 => assumption); (case' st2 => assumption); (case' st3 => rfl); (case' st4 => decide +kernel); (case' ste => wtm_at "ev"); (case' st5 => rfl))
  | ((with_reducible show S1 _ _ (.Assign [.Name "rows" _] _ _) _); refine' setF ?st1 ?st2 1 ?st3 ?st4 ?ste ?st5; (case' st1 => assumption); (case' st2 => assumption); (case' st3 => rfl); (case' st4 => decide +kernel); (case' ste => wtm_at "ev"); (case' st5 => rfl))
  | ((with_reducible show S1 _ _ (.Assign [.Name "goal" _] _ _) _); refine' setF ?st1 ?st2 2 ?st3 ?st4 ?ste ?st5; (case' st1 => assumption); (case' st2 => assumption); (case' st3 => rfl); (case' st4 => decide +kernel); (case' ste => wtm_at "ev"); (case' st5 => rfl))
  | ((with_reducible show S1 _ _ (.Assign [.Name "wide" _] _ _) _); refine' setF ?st1 ?st2 3 ?st3 ?st4 ?ste ?st5; (case' st1 => assumption); (case' st2 => assumption); (case' st3 => rfl); (case' st4 => decide +kernel); (case' ste => wtm_at "ev"); (case' st5 => rfl))
  | ((with_reducible show S1 _ _ (.Assign [.Name "left" _] _ _) _); refine' setF ?st1 ?st2 4 ?st3 ?st4 ?ste ?st5; (case' st1 => assumption); (case' st2 => assumption); (case' st3 => rfl); (case' st4 => decide +kernel); (case' ste => wtm_at "ev"); (case' st5 => rfl)))
local macro_rules | `(tactic| wtm_at "app") => `(tactic| first
  | ((with_reducible show S1 _ _ (.Expr (.Call (.Attribute (.Name "P" _) _ _) _ _ _) _) _); refine' appF ?ap1 0 ?ap2 ?ap3 ?ap4 ?ape ?aps ?ap5 ?ap6; (case' ap1 => assumption); (case' ap2 => rfl); (case' ap3 => rfl); (case' ap4 => decide +kernel); (case' ape => wtm_at "ev"); (case' aps => try (wtm_at "sz")); (case' ap5 => decide +kernel); (case' ap6 => decide +kernel))
  | ((with_reducible show S1 _ _ (.Expr (.Call (.Attribute (.Name "rows" _) _ _) _ _ _) _) _); refine' appF ?ap1 1 ?ap2 ?ap3 ?ap4 ?ape ?aps ?ap5 ?ap6; (case' ap1 => assumption); (case' ap2 => rfl); (case' ap3 => rfl); (case' ap4 => decide +kernel); (case' ape => wtm_at "ev"); (case' aps => try (wtm_at "sz")); (case' ap5 => decide +kernel); (case' ap6 => decide +kernel))
  | ((with_reducible show S1 _ _ (.Expr (.Call (.Attribute (.Name "goal" _) _ _) _ _ _) _) _); refine' appF ?ap1 2 ?ap2 ?ap3 ?ap4 ?ape ?aps ?ap5 ?ap6; (case' ap1 => assumption); (case' ap2 => rfl); (case' ap3 => rfl); (case' ap4 => decide +kernel); (case' ape => wtm_at "ev"); (case' aps => try (wtm_at "sz")); (case' ap5 => decide +kernel); (case' ap6 => decide +kernel))
  | ((with_reducible show S1 _ _ (.Expr (.Call (.Attribute (.Name "wide" _) _ _) _ _ _) _) _); refine' appF ?ap1 3 ?ap2 ?ap3 ?ap4 ?ape ?aps ?ap5 ?ap6; (case' ap1 => assumption); (case' ap2 => rfl); (case' ap3 => rfl); (case' ap4 => decide +kernel); (case' ape => wtm_at "ev"); (case' aps => try (wtm_at "sz")); (case' ap5 => decide +kernel); (case' ap6 => decide +kernel))
  | ((with_reducible show S1 _ _ (.Expr (.Call (.Attribute (.Name "left" _) _ _) _ _ _) _) _); refine' appF ?ap1 4 ?ap2 ?ap3 ?ap4 ?ape ?aps ?ap5 ?ap6; (case' ap1 => assumption); (case' ap2 => rfl); (case' ap3 => rfl); (case' ap4 => decide +kernel); (case' ape => wtm_at "ev"); (case' aps => try (wtm_at "sz")); (case' ap5 => decide +kernel); (case' ap6 => decide +kernel)))
local macro_rules | `(tactic| wtm_at "put") => `(tactic| first
  | ((with_reducible show S1 _ _ (.Assign [.Subscript (.Name "P" _) _ _] _ _) _); refine' putF ?pu1 0 ?pu2 ?pu3 ?pu4 ?pue ?pui ?pu5 ?pu6 ?pu7 ?pu8; (case' pu1 => assumption); (case' pu2 => rfl); (case' pu3 => rfl); (case' pu4 => decide +kernel); (case' pue => wtm_at "ev"); (case' pui => wtm_at "ev"); (case' pu5 => try (wtm_at "sd")); (case' pu6 => try (wtm_at "sd")); (case' pu7 => decide +kernel); (case' pu8 => decide +kernel))
  | ((with_reducible show S1 _ _ (.Assign [.Subscript (.Name "rows" _) _ _] _ _) _); refine' putF ?pu1 1 ?pu2 ?pu3 ?pu4 ?pue ?pui ?pu5 ?pu6 ?pu7 ?pu8; (case' pu1 => assumption); (case' pu2 => rfl); (case' pu3 => rfl); (case' pu4 => decide +kernel); (case' pue => wtm_at "ev"); (case' pui => wtm_at "ev"); (case' pu5 => try (wtm_at "sd")); (case' pu6 => try (wtm_at "sd")); (case' pu7 => decide +kernel); (case' pu8 => decide +kernel))
  | ((with_reducible show S1 _ _ (.Assign [.Subscript (.Name "goal" _) _ _] _ _) _); refine' putF ?pu1 2 ?pu2 ?pu3 ?pu4 ?pue ?pui ?pu5 ?pu6 ?pu7 ?pu8; (case' pu1 => assumption); (case' pu2 => rfl); (case' pu3 => rfl); (case' pu4 => decide +kernel); (case' pue => wtm_at "ev"); (case' pui => wtm_at "ev"); (case' pu5 => try (wtm_at "sd")); (case' pu6 => try (wtm_at "sd")); (case' pu7 => decide +kernel); (case' pu8 => decide +kernel))
  | ((with_reducible show S1 _ _ (.Assign [.Subscript (.Name "wide" _) _ _] _ _) _); refine' putF ?pu1 3 ?pu2 ?pu3 ?pu4 ?pue ?pui ?pu5 ?pu6 ?pu7 ?pu8; (case' pu1 => assumption); (case' pu2 => rfl); (case' pu3 => rfl); (case' pu4 => decide +kernel); (case' pue => wtm_at "ev"); (case' pui => wtm_at "ev"); (case' pu5 => try (wtm_at "sd")); (case' pu6 => try (wtm_at "sd")); (case' pu7 => decide +kernel); (case' pu8 => decide +kernel))
  | ((with_reducible show S1 _ _ (.Assign [.Subscript (.Name "left" _) _ _] _ _) _); refine' putF ?pu1 4 ?pu2 ?pu3 ?pu4 ?pue ?pui ?pu5 ?pu6 ?pu7 ?pu8; (case' pu1 => assumption); (case' pu2 => rfl); (case' pu3 => rfl); (case' pu4 => decide +kernel); (case' pue => wtm_at "ev"); (case' pui => wtm_at "ev"); (case' pu5 => try (wtm_at "sd")); (case' pu6 => try (wtm_at "sd")); (case' pu7 => decide +kernel); (case' pu8 => decide +kernel)))
local macro_rules | `(tactic| wtm_at "reto") => `(tactic| first
  | ((with_reducible show S1 _ _ (.Return (some (.Name "P" _)) _) _); exact retOF (by assumption) 0 (by rfl) rfl (by decide +kernel) (by decide +kernel) (by decide +kernel))
  | ((with_reducible show S1 _ _ (.Return (some (.Name "rows" _)) _) _); exact retOF (by assumption) 1 (by rfl) rfl (by decide +kernel) (by decide +kernel) (by decide +kernel))
  | ((with_reducible show S1 _ _ (.Return (some (.Name "goal" _)) _) _); exact retOF (by assumption) 2 (by rfl) rfl (by decide +kernel) (by decide +kernel) (by decide +kernel))
  | ((with_reducible show S1 _ _ (.Return (some (.Name "wide" _)) _) _); exact retOF (by assumption) 3 (by rfl) rfl (by decide +kernel) (by decide +kernel) (by decide +kernel))
  | ((with_reducible show S1 _ _ (.Return (some (.Name "left" _)) _) _); exact retOF (by assumption) 4 (by rfl) rfl (by decide +kernel) (by decide +kernel) (by decide +kernel)))
local macro_rules | `(tactic| wtm_at "tgt") => `(tactic| first
  | ((with_reducible show PG _ (.Name "P" _) _); exact tgF (by assumption) (by assumption) 0 (by rfl) (by decide +kernel))
  | ((with_reducible show PG _ (.Name "rows" _) _); exact tgF (by assumption) (by assumption) 1 (by rfl) (by decide +kernel))
  | ((with_reducible show PG _ (.Name "goal" _) _); exact tgF (by assumption) (by assumption) 2 (by rfl) (by decide +kernel))
  | ((with_reducible show PG _ (.Name "wide" _) _); exact tgF (by assumption) (by assumption) 3 (by rfl) (by decide +kernel))
  | ((with_reducible show PG _ (.Name "left" _) _); exact tgF (by assumption) (by assumption) 4 (by rfl) (by decide +kernel)))
theorem ok_solved {f : Addr} {fd : FuncData} (F : Fun K "solved" "solved" s_solved f fd) (hm : mg "solved" = some (.ref f)) (b : Binds K fd ["P", "rows", "goal"] []) (ml : mg "len" = none) (mt : mg "tuple" = none) (Gon : Fn P w K mg base 1 "on" ["P", "n"] rOn)
    (Gl : Fn P w K mg base 1 "lead_of" ["row"] rLead) (Gr : Fn P w K mg base 3 "rest_by" ["P", "found", "row"] rRest) (Gw : Fn P w K mg base 6 "with_weights" ["P", "rows"] rWeights) (Gs : Fn P w K mg base 6 "shut_off" ["P", "rows", "goal"] rShut) : Fn P w K mg base 7 "solved" ["P", "rows", "goal"] rSolved := by
  refine fnF F hm b sc_solved (fun ds r h => by cases h <;> rfl) fun X hX hT ds r h => ?_
  cases h with
  | @mk p wd rows goal hp hr hg h hz =>
    have p3 := hp.lo
    have p9 := hp.hi
    have p0 : 0 < p := by omega
    obtain ⟨st, _⟩ := ww_steps hp hr
    have hE := extRows_on (show 1 < p by omega) hr
    have hlen := (steps_all p0 hE (extRows rows).length (Nat.le_refl _)).2
    rw [List.take_length, extRows_len] at hlen
    have hlen : (withWeights p rows).length ≤ rows.length := hlen
    have go := goal_on hp hr hg
    have lo := left_on hp hr hg
    have gl : goal.length ≤ 1000 := by rw [hg.1]; omega
    refine' sm_cons (A1 := [.dat (.int p), .dat (lT rows), .dat (tI goal), .dat (.int wd), .un, .un]) ?s1 ?_
    case' s1 =>
      refine' s1_le ?s1a ?s1b
      case' s1a => wtm_at "st"
      case' s1b => rw [List.length_map, hg.1]; wtm_at "le"
    refine' sm_cons (A1 := [.dat (.int p), .dat (lT rows), .dat (tI goal), .dat (.int wd), .dat (tI (leftOf p rows goal)), .un]) ?s2 ?_
    case' s2 =>
      refine' setF hX hT 4 (by rfl) ?a1 (callF hX Gr (by decide) ?a2 (ea_cons ?a3 (ea_cons ?a4 (ea_cons ?a5 ea_nil))) (rRest.mk p0 st.on go.1 go.2 (by omega) (by omega) st.lt (by omega)) ?a6) (by rfl)
      case' a1 => decide +kernel
      case' a2 => decide +kernel
      case' a3 => wtm_at "ev"
      case' a4 =>
        refine' callF hX Gw (by decide) ?b2 ?b3 (rWeights.mk hp hr h hz) ?b4
        case' b2 => decide +kernel
        case' b3 => wtm_at "args"
        case' b4 => decide +kernel
      case' a5 =>
        refine' ev_eq (ev_bin (d2 := tI (zeroV rows.length)) ?c1 ?c2 (BinD.catI ?c3)) rfl
        case' c1 =>
          refine' tupleTF hX ?c4 mt ?c5
          case' c4 => decide +kernel
          case' c5 => wtm_at "ev"
        case' c2 =>
          refine' ev_eq ?c6 ?c7
          case' c6 => wtm_at "ev"
          case c7 => rw [List.length_map, Int.toNat_natCast]
        case c3 => rw [sizeLine_eq, hg.1]; simp; omega
      case' a6 => decide +kernel
    have lz : (leftOf p rows goal).length ≤ 1000 := by rw [lo.1]; omega
    by_cases hl : lead (leftOf p rows goal) < wd
    · have er : solvedD p wd rows goal = .tuple [.str "shut", tI (shutOff p rows goal)] := if_pos hl
      rw [er]
      have hsh := shut_in hp hr hg hl
      generalize leftOf p rows goal = left at *
      refine' sm_end (s1_if (v := true) ?d1 (fun _ => sm_end (s1_retE ?d2 ?d3)) fun h => nomatch h)
      case' d1 =>
        refine' et_eq ?d4 ?d5
        case' d4 => wtm_at "test"
        case d5 => exact decide_eq_true (by omega)
      case' d2 =>
        refine' ev_tup (ea_cons ?d6 (ea_cons ?d7 ea_nil)) ?d8
        case' d6 => wtm_at "ev"
        case' d7 =>
          refine' callF hX Gs (by decide) ?d9 ?da (rShut.mk hp hr hg h hz hsh) ?db
          case' d9 => decide +kernel
          case' da => wtm_at "args"
          case' db => decide +kernel
        case' d8 => show 2 ≤ sizeLine; decide +kernel
      case d3 => rfl
    · have er : solvedD p wd rows goal = .tuple [.str "sum", tI (toldW p wd rows goal)] := if_neg hl
      rw [er]
      have eT : toldW p wd rows goal = ((leftOf p rows goal).drop wd).map fun x => (0 - x) % p := rfl
      rw [eT]
      generalize leftOf p rows goal = left at *
      refine' sm_cons (s1_if (v := false) ?f1 (fun h => nomatch h) fun _ => sm_nil) ?_
      case' f1 =>
        refine' et_eq ?f4 ?f5
        case' f4 => wtm_at "test"
        case f5 => exact decide_eq_false (by omega)
      refine' sm_end (s1_retE ?f2 ?f3)
      case' f2 =>
        refine' ev_tup (ea_cons ?f6 (ea_cons (tupleF hX ?f7 mt (evs_new ?f8)) ea_nil)) ?f9
        case' f6 => wtm_at "ev"
        case' f7 => decide +kernel
        case' f8 =>
          refine' lcF hX 5 (left.drop wd) .int (fun x => .int ((0 - x) % p)) ?i5 ?r5 ?k5 ?n5 ?x5 ?z5 ?j5 fun Y hY z hz => ?b5
          case' i5 => wtm_at "iter"
          case r5 => rw [Int.toNat_natCast]
          case' k5 => decide +kernel
          case' n5 => rfl
          case' x5 => decide +kernel
          case z5 => rw [sizeLine_eq, List.length_drop]; omega
          case' j5 => rfl
          case' b5 => wtm_at "ev"
        case' f9 => show 2 ≤ sizeLine; decide +kernel
      case f3 =>
        show C.dat (.tuple [_, .tuple _]) = C.dat (.tuple [_, .tuple (List.map PyData.int (List.map _ _))])
        rw [List.map_map]
        rfl
end
end W

namespace W
open PySem PySem.Spec PyProof.Rows L2 LR
def lrowCell (s : List Int) (size k : Nat) : Int := (cutS s (some (4 + (k : Int))) none (some (size : Int))).sum
def lrowAt (P : Int) (wd : Nat) (prev : List (List Int)) (c : Int) : List Int :=
  if c % 4 = 2 ∧ 0 < prev.length then (prev.getD (c / 8 % prev.length).toNat []).map fun x => c / 4 * x % P
  else if c % 4 = 1 ∧ 1 < prev.length then ((prev.getD (prev.length - 1) []).zip (prev.getD (prev.length - 2) [])).map fun z => (c / 4 * z.1 + z.2) % P
  else lawDigits (c / 4) P wd
def rowsGo (s : List Int) (P : Int) (size wd : Nat) : Nat → List (List Int)
  | 0 => []
  | k + 1 => rowsGo s P size wd k ++ [lrowAt P wd (rowsGo s P size wd k) (lrowCell s size k)]
def lawRows (s : List Int) (P : Int) (size wd : Nat) : List (List Int) := rowsGo s P size wd size
theorem mod_on {P : Int} (p0 : 0 < P) {α : Type} {xs : List α} {f : α → Int} : OnW P (xs.map fun x => f x % P) := fun y hy => by
  obtain ⟨z, _, rfl⟩ := List.mem_map.mp hy
  exact ⟨Int.emod_nonneg _ (by omega), Int.emod_lt_of_pos _ p0⟩
theorem lrowAt_on {P : Int} {wd : Nat} (p0 : 0 < P) {prev : List (List Int)} {c : Int} (h : RowsOn P wd prev) : RowOn P wd (lrowAt P wd prev c) := by
  unfold lrowAt
  split
  · next hc =>
    have a := Int.emod_nonneg (c / 8) (show (prev.length : Int) ≠ 0 by omega)
    have b := Int.emod_lt_of_pos (c / 8) (show 0 < (prev.length : Int) by omega)
    exact ⟨by rw [List.length_map]; exact (h _ (getD_mem (by omega))).1, mod_on p0⟩
  · split
    · next hc =>
      refine ⟨?_, mod_on p0⟩
      rw [List.length_map, List.length_zip, (h _ (getD_mem (z := []) (show prev.length - 1 < prev.length by omega))).1, (h _ (getD_mem (z := []) (show prev.length - 2 < prev.length by omega))).1, Nat.min_self]
    · exact ⟨lawDigits_len _ _ _, lawDigits_mem p0⟩
theorem rowsGo_on {s : List Int} {P : Int} {size wd : Nat} (p0 : 0 < P) : ∀ k, RowsOn P wd (rowsGo s P size wd k) ∧ (rowsGo s P size wd k).length = k
  | 0 => ⟨rows_nil, rfl⟩
  | k + 1 => by
    obtain ⟨a, b⟩ := rowsGo_on p0 k
    have q := lrowAt_on p0 (c := lrowCell s size k) a
    exact ⟨rows_append a (rows_one q.1 q.2), by rw [rowsGo, List.length_append, b]; rfl⟩
/-- what _law_sum makes -/
def sumV (P : Int) (wd : Nat) (ps : List (List Int × Int)) : List Int := ps.foldl (fun f z => (f.zip z.1).map fun q => (q.1 + z.2 * q.2) % P) (zeroV wd)
section
variable {P : Program} {w : World} {K : PySem.W.Frag} {mg : Str → Option Value} {base : Heap}
inductive rRows : List PyData → Res → Prop
  | mk {s : List Int} {p : Int} {size wd : Nat} (h : 0 < p) (h9 : p ≤ 9999) (hs : 1 ≤ size) (hs2 : size ≤ 100) (hw : wd ≤ 100) : rRows [.list (s.map .int), .int p, .int size, .int wd] (.ok (.own (.lst ((lawRows s p size wd).map tI))))
local macro_rules | `(tactic| wtm_at "R") => `(tactic| first
  | ((with_reducible apply rDigits.mk) <;> first | (with_reducible assumption) | omega)
  | (constructor; all_goals try (wtm_at "sd")))
inductive rSumV : List PyData → Res → Prop
  | mk {p : Int} {wd : Nat} {rows : List (List Int)} {ws : List Int} (h : 0 < p) (h9 : p ≤ 9999) (hr : RowsOn p wd rows) (h0 : 0 < rows.length) (hw : wd ≤ 100) (hc : ∀ c ∈ ws, -100000 ≤ c ∧ c ≤ 100000) : rSumV [.int p, lT rows, tI ws] (.ok (.dat (tI (sumV p wd (rows.zip ws)))))
theorem sumV_snoc {p : Int} {wd : Nat} {ps : List (List Int × Int)} {k : Nat} (hk : k < ps.length) : sumV p wd (ps.take (k + 1)) = ((sumV p wd (ps.take k)).zip (ps[k]).1).map fun q => (q.1 + (ps[k]).2 * q.2) % p := by
  unfold sumV
  rw [List.take_add_one, List.getElem?_eq_getElem hk, List.foldl_append]
  rfl
theorem sumV_on {p : Int} {wd : Nat} (p1 : 1 < p) : ∀ {ps : List (List Int × Int)}, (∀ z ∈ ps, z.1.length = wd) → ∀ {f : List Int}, RowOn p wd f → RowOn p wd (ps.foldl (fun f z => (f.zip z.1).map fun q => (q.1 + z.2 * q.2) % p) f)
  | [], _, _, hf => hf
  | z :: ps, h, f, hf => by
    refine sumV_on p1 (ps := ps) (fun y hy => h y (List.mem_cons_of_mem _ hy)) ⟨?_, mod_on (by omega)⟩
    rw [List.length_map, List.length_zip, hf.1, h z List.mem_cons_self, Nat.min_self]
end
end W

namespace W
section
variable {P : Int} {wd : Nat} {rows : List (List Int)}
theorem sum_less {f r : List Int} {c : Int} : ((f.zip r).map fun q => (q.1 + c * q.2) % P) = lessV P f r (-c) := by
  unfold lessV
  refine List.map_congr_left fun q _ => ?_
  congr 1
  grind
theorem sumV_sp {S : List Int → Prop} : ∀ {ps : List (List Int × Int)} {f : List Int}, Sp P wd S f → (∀ z ∈ ps, S z.1) → Sp P wd S (ps.foldl (fun f z => (f.zip z.1).map fun q => (q.1 + z.2 * q.2) % P) f)
  | [], _, h, _ => h
  | z :: ps, f, h, hs => by
    refine sumV_sp (ps := ps) ?_ fun y hy => hs y (List.mem_cons_of_mem _ hy)
    show Sp P wd S ((f.zip z.1).map fun q => (q.1 + z.2 * q.2) % P)
    rw [sum_less]
    exact .step h (hs z List.mem_cons_self)
theorem sumV_mem {ws : List Int} : Sp P wd (· ∈ rows) (sumV P wd (rows.zip ws)) := sumV_sp .zero fun z hz => (List.of_mem_zip (show (z.1, z.2) ∈ rows.zip ws from hz)).1
theorem sumV_len (p1 : 1 < P) (hr : RowsOn P wd rows) {ws : List Int} : RowOn P wd (sumV P wd (rows.zip ws)) := Sp.on p1 (fun r h => (hr r h).1) sumV_mem
theorem sumV_em (hr : RowsOn P wd rows) {ws : List Int} (hl : ws.length = rows.length) {j : Nat} (hj : j < wd) : ∀ k, k ≤ rows.length → (sumV P wd ((rows.zip ws).take k)).length = wd ∧ Em P ((sumV P wd ((rows.zip ws).take k)).getD j 0) (sm k fun i => ws.getD i 0 * (rows.getD i []).getD j 0)
  | 0, _ => ⟨by simp [sumV], by
    rw [List.take_zero]
    show Em P ((zeroV wd).getD j 0) 0
    rw [rep_get]
    exact Em.refl⟩
  | k + 1, hk => by
    obtain ⟨a, b⟩ := sumV_em hr hl hj k (by omega)
    have hz : k < (rows.zip ws).length := by rw [List.length_zip]; omega
    have e1 : (rows.zip ws)[k] = (rows.getD k [], ws.getD k 0) := by
      rw [List.getElem_zip, List.getD_eq_getElem?_getD, List.getD_eq_getElem?_getD, List.getElem?_eq_getElem (by omega), List.getElem?_eq_getElem (by omega)]
      rfl
    have hk2 := (hr _ (getD_mem (z := []) (show k < rows.length by omega))).1
    rw [sumV_snoc hz, e1, sum_less]
    refine ⟨by rw [lessV_len (by rw [a, hk2]), a], (less_em a hk2 hj).trans ((b.sub Em.refl).trans (Em.of_eq ?_))⟩
    show _ = sm k _ + _
    grind
theorem sumV_all (hr : RowsOn P wd rows) {ws : List Int} (hl : ws.length = rows.length) {j : Nat} (hj : j < wd) : Em P ((sumV P wd (rows.zip ws)).getD j 0) (sm rows.length fun i => ws.getD i 0 * (rows.getD i []).getD j 0) := by
  have h := (sumV_em hr hl hj rows.length (Nat.le_refl _)).2
  rw [List.take_of_length_le (by rw [List.length_zip]; omega)] at h
  exact h
/-- the told weights bring the rows to the goal -/
theorem told_sum (hp : Prm P) (hr : RowsOn P wd rows) {goal : List Int} (hg : RowOn P wd goal) (hl : wd ≤ lead (leftOf P rows goal)) : sumV P wd (rows.zip (toldW P wd rows goal)) = goal := by
  have p1 := hp.one
  obtain ⟨a, b⟩ := told_ok hp hr hg hl
  exact vext p1 (sumV_len p1 hr) hg fun j hj => (sumV_all hr a.1 hj).trans (b j hj).symm
/-- weights that bring the rows to nothing -/
theorem null_sum (hp : Prm P) (hr : RowsOn P wd rows) {ws : List Int} (hl : ws.length = rows.length) (h : ∀ j, j < wd → Em P 0 (sm rows.length fun i => ws.getD i 0 * (rows.getD i []).getD j 0)) : sumV P wd (rows.zip ws) = zeroV wd := by
  have p1 := hp.one
  exact vext p1 (sumV_len p1 hr) (zero_on p1) fun j hj => (sumV_all hr hl hj).trans (by rw [rep_get]; exact (h j hj).symm)
end
end W

namespace W
open LR
/-! the law's clearing of columns -/
def pickK (left : List (List Int)) (at' : Nat) : List Nat := (List.range left.length).filter fun k => decide ((left.getD k []).getD at' 0 ≠ 0)
def clearV (P : Int) (first : List Int) (at' : Nat) (row : List Int) : List Int := lessV P row first (row.getD at' 0)
def redStep (P : Int) (at' : Nat) (st : List (List Int) × List (List Int)) : List (List Int) × List (List Int) :=
  match pickK st.1 at' with
  | [] => st
  | k :: _ => ((st.1.eraseIdx k).map (clearV P (newRow P (st.1.getD k [])) at'), st.2.map (clearV P (newRow P (st.1.getD k [])) at') ++ [newRow P (st.1.getD k [])])
def redGo (P : Int) (rows : List (List Int)) : Nat → List (List Int) × List (List Int)
  | 0 => (rows, [])
  | a + 1 => redStep P a (redGo P rows a)
structure RedInv (P : Int) (wd : Nat) (rows : List (List Int)) (a : Nat) (u : List (List Int) × List (List Int)) : Prop where
  on : RowsOn P wd u.1
  nul : ∀ r ∈ u.1, ∀ j, j < a → r.getD j 0 = 0
  st : Steps P wd u.2
  ld : ∀ r ∈ u.2, lead r < a
  sub : ∀ q, q ∈ u.1 ∨ q ∈ u.2 → Sp P wd (· ∈ rows) q
  sup : ∀ q ∈ rows, Sp P wd (fun x => x ∈ u.1 ∨ x ∈ u.2) q
  len : u.1.length + u.2.length = rows.length
theorem mem_erase {α : Type} {l : List α} {k : Nat} (hk : k < l.length) : ∀ x, x ∈ l ↔ x = l[k] ∨ x ∈ l.eraseIdx k := by
  intro x
  have e : l = l.take k ++ l[k] :: l.drop (k + 1) := by rw [List.getElem_cons_drop, List.take_append_drop]
  rw [List.eraseIdx_eq_take_drop_succ]
  constructor
  · intro h
    rw [e] at h
    rcases List.mem_append.mp h with z | z
    · exact .inr (List.mem_append.mpr (.inl z))
    · rcases List.mem_cons.mp z with z | z
      · exact .inl z
      · exact .inr (List.mem_append.mpr (.inr z))
  · rintro (rfl | h)
    · exact List.getElem_mem _
    · rcases List.mem_append.mp h with z | z
      · exact List.mem_of_mem_take z
      · exact List.mem_of_mem_drop z
section
variable {P : Int} {wd : Nat} {rows : List (List Int)} (hp : Prm P) (hr : RowsOn P wd rows)
include hp hr
theorem red_inv : ∀ a, a ≤ wd → RedInv P wd rows a (redGo P rows a)
  | 0, _ => by
    refine ⟨hr, fun _ _ j hj => absurd hj (Nat.not_lt_zero j), steps_nil, (fun _ h => nomatch h), fun q h => ?_, fun q h => Sp.mem hp.one (.inl h) (hr q h), rfl⟩
    rcases h with h | h
    · exact Sp.mem hp.one h (hr q h)
    · cases h
  | a + 1, ha => by
    have ih := red_inv a (by omega)
    have p1 := hp.one
    have p0 : 0 < P := by omega
    show RedInv P wd rows (a + 1) (redStep P a (redGo P rows a))
    generalize redGo P rows a = s at *
    obtain ⟨left, ready⟩ := s
    have hS : ∀ r, r ∈ rows → r.length = wd := fun r h => (hr r h).1
    cases hk : pickK left a with
    | nil =>
      have e : redStep P a (left, ready) = (left, ready) := by
        unfold redStep
        rw [show pickK (left, ready).1 a = [] from hk]
      rw [e]
      refine ⟨ih.on, fun r h j hj => ?_, ih.st, fun r h => Nat.lt_succ_of_lt (ih.ld r h), ih.sub, ih.sup, ih.len⟩
      rcases Nat.lt_succ_iff_lt_or_eq.mp hj with z | rfl
      · exact ih.nul r h j z
      · obtain ⟨k, hk2, rfl⟩ := List.mem_iff_getElem.mp h
        refine Classical.byContradiction fun hne => ?_
        have : k ∈ pickK left j := List.mem_filter.mpr ⟨List.mem_range.mpr hk2, decide_eq_true (by
          rw [List.getD_eq_getElem?_getD (l := left), List.getElem?_eq_getElem hk2]; exact hne)⟩
        rw [hk] at this
        cases this
    | cons k ks =>
      have e : redStep P a (left, ready) = ((left.eraseIdx k).map (clearV P (newRow P (left.getD k [])) a), ready.map (clearV P (newRow P (left.getD k [])) a) ++ [newRow P (left.getD k [])]) := by
        unfold redStep
        rw [show pickK (left, ready).1 a = k :: ks from hk]
      rw [e]
      clear e
      have hk2 : k ∈ pickK left a := by rw [hk]; exact List.mem_cons_self ..
      obtain ⟨h1, h2⟩ := List.mem_filter.mp hk2
      have kl : k < left.length := List.mem_range.mp h1
      have fne := of_decide_eq_true h2
      have ef : left.getD k [] = left[k] := by rw [List.getD_eq_getElem?_getD, List.getElem?_eq_getElem kl]; rfl
      have fm : left.getD k [] ∈ left := by rw [ef]; exact List.getElem_mem _
      have fon : RowOn P wd (left.getD k []) := ih.on _ fm
      have flead : lead (left.getD k []) = a := lead_eq (by rw [fon.1]; omega) (fun i hi => ih.nul _ fm i hi) fne
      obtain ⟨n1, n2, n3, n4, n5⟩ := newRow_ok hp fon (by omega)
      have hmem := mem_erase kl
      rw [← ef] at hmem
      clear ef
      generalize left.getD k [] = f at *
      rw [flead] at n2 n3
      generalize newRow P f = nr at *
      have nz : ∀ j, j < a → nr.getD j 0 = 0 := fun j hj => by
        have := (lead_lt (r := nr) (by rw [n2, n1.1]; omega)).1 j (by omega)
        exact this
      -- what clearing does
      have con : ∀ r, r.length = wd → RowOn P wd (clearV P nr a r) := fun r h => less_on p1 h n1.1
      have cget : ∀ r, RowOn P wd r → ∀ j, j < wd → (clearV P nr a r).getD j 0 = (r.getD j 0 - r.getD a 0 * nr.getD j 0) % P := fun r h j hj => lessV_get (by rw [h.1, n1.1]) (by rw [h.1]; exact hj)
      have ckeep : ∀ r, RowOn P wd r → ∀ j, j < wd → nr.getD j 0 = 0 → (clearV P nr a r).getD j 0 = r.getD j 0 := fun r h j hj z => by
        rw [cget r h j hj, z, Int.mul_zero, Int.sub_zero]
        exact emod_on (on_get h.2 (by rw [h.1]; exact hj))
      have cat : ∀ r, RowOn P wd r → (clearV P nr a r).getD a 0 = 0 := fun r h => by
        rw [cget r h a (by omega), n3, Int.mul_one, Int.sub_self, Int.zero_emod]
      have son : ∀ r ∈ ready, RowOn P wd r := ih.st.on
      have rl : ∀ r ∈ ready, lead (clearV P nr a r) = lead r ∧ (clearV P nr a r).getD (lead r) 0 = 1 := fun r h => by
        have la := ih.ld r h
        have l1 := ih.st.one r h
        have e := ckeep r (son r h) (lead r) (by omega) (nz _ la)
        refine ⟨lead_eq (by rw [(con r (son r h).1).1]; omega) (fun i hi => ?_) (by rw [e, l1]; decide), by rw [e]; exact l1⟩
        rw [ckeep r (son r h) i (by omega) (nz i (by omega))]
        exact (lead_lt (r := r) (by rw [(son r h).1]; omega)).1 i hi
      refine ⟨fun r h => ?_, fun r h j hj => ?_, ⟨fun r h => ?_, fun r h => ?_, fun r h => ?_, fun r h q hq hne => ?_, ?_⟩, fun r h => ?_, fun q h => ?_, fun q h => ?_, ?_⟩
      · obtain ⟨r, h', rfl⟩ := List.mem_map.mp h; have h := h'
        exact con r (ih.on r ((hmem r).mpr (.inr h))).1
      · obtain ⟨r, h', rfl⟩ := List.mem_map.mp h; have h := h'
        have hrl := (hmem r).mpr (.inr h)
        rcases Nat.lt_succ_iff_lt_or_eq.mp hj with z | rfl
        · rw [ckeep r (ih.on r hrl) j (by omega) (nz j z)]
          exact ih.nul r hrl j z
        · exact cat r (ih.on r hrl)
      · rcases List.mem_append.mp h with h | h
        · obtain ⟨r, h', rfl⟩ := List.mem_map.mp h; have h := h'
          exact con r (son r h).1
        · rw [List.mem_singleton.mp h]; exact n1
      · rcases List.mem_append.mp h with h | h
        · obtain ⟨r, h', rfl⟩ := List.mem_map.mp h; have h := h'
          rw [(rl r h).1]; have := ih.ld r h; omega
        · rw [List.mem_singleton.mp h, n2]; omega
      · rcases List.mem_append.mp h with h | h
        · obtain ⟨r, h', rfl⟩ := List.mem_map.mp h; have h := h'
          rw [(rl r h).1]; exact (rl r h).2
        · rw [List.mem_singleton.mp h, n2]; exact n3
      · rcases List.mem_append.mp h with h | h <;> rcases List.mem_append.mp hq with hq | hq
        · obtain ⟨r, h', rfl⟩ := List.mem_map.mp h; have h := h'
          obtain ⟨q, hq', rfl⟩ := List.mem_map.mp hq; have hq := hq'
          rw [(rl r h).1, (rl q hq).1] at hne
          rw [(rl q hq).1]
          have la := ih.ld q hq
          rw [ckeep r (son r h) (lead q) (by omega) (nz _ la)]
          exact ih.st.clr r h q hq hne
        · obtain ⟨r, h', rfl⟩ := List.mem_map.mp h; have h := h'
          rw [List.mem_singleton.mp hq, n2]
          exact cat r (son r h)
        · obtain ⟨q, hq', rfl⟩ := List.mem_map.mp hq; have hq := hq'
          rw [List.mem_singleton.mp h, (rl q hq).1]
          exact nz _ (ih.ld q hq)
        · rw [List.mem_singleton.mp h, List.mem_singleton.mp hq] at hne
          exact absurd rfl hne
      · rw [List.pairwise_append]
        refine ⟨?_, List.pairwise_singleton .., fun x hx y hy => ?_⟩
        · rw [List.pairwise_map]
          refine ih.st.inc.imp_of_mem fun {x y} hx hy hlt => ?_
          rw [(rl x hx).1, (rl y hy).1]; exact hlt
        · obtain ⟨r, h, rfl⟩ := List.mem_map.mp hx
          rw [List.mem_singleton.mp hy, n2, (rl r h).1]
          exact ih.ld r h
      · rcases List.mem_append.mp h with h | h
        · obtain ⟨r, h', rfl⟩ := List.mem_map.mp h; have h := h'
          rw [(rl r h).1]; have := ih.ld r h; omega
        · rw [List.mem_singleton.mp h, n2]; omega
      · have fsp : Sp P wd (· ∈ rows) nr := by
          rw [n4]
          exact Sp.less p1 hS .zero (ih.sub f (.inl ((hmem f).mpr (.inl rfl))))
        rcases h with h | h
        · obtain ⟨r, h', rfl⟩ := List.mem_map.mp h; have h := h'
          exact Sp.less p1 hS (ih.sub r (.inl ((hmem r).mpr (.inr h)))) fsp
        · rcases List.mem_append.mp h with h | h
          · obtain ⟨r, h', rfl⟩ := List.mem_map.mp h; have h := h'
            exact Sp.less p1 hS (ih.sub r (.inr h)) fsp
          · rw [List.mem_singleton.mp h]; exact fsp
      · -- each row comes of the new ones
        have hS2 : ∀ r, (r ∈ left ∨ r ∈ ready) → r.length = wd := fun r h => by
          rcases h with h | h
          · exact (ih.on r h).1
          · exact (son r h).1
        have hS3 : ∀ r, (r ∈ (left.eraseIdx k).map (clearV P nr a) ∨ r ∈ ready.map (clearV P nr a) ++ [nr]) → RowOn P wd r := fun r h => by
          rcases h with h | h
          · obtain ⟨r, h', rfl⟩ := List.mem_map.mp h; have h := h'
            exact con r (ih.on r ((hmem r).mpr (.inr h))).1
          · rcases List.mem_append.mp h with h | h
            · obtain ⟨r, h', rfl⟩ := List.mem_map.mp h; have h := h'
              exact con r (son r h).1
            · rw [List.mem_singleton.mp h]; exact n1
        have nsp : Sp P wd (fun x => x ∈ (left.eraseIdx k).map (clearV P nr a) ∨ x ∈ ready.map (clearV P nr a) ++ [nr]) nr := Sp.mem p1 (.inr (List.mem_append.mpr (.inr (List.mem_singleton.mpr rfl)))) n1
        have back : ∀ r, RowOn P wd r → Sp P wd (fun x => x ∈ (left.eraseIdx k).map (clearV P nr a) ∨ x ∈ ready.map (clearV P nr a) ++ [nr]) (clearV P nr a r) → Sp P wd (fun x => x ∈ (left.eraseIdx k).map (clearV P nr a) ∨ x ∈ ready.map (clearV P nr a) ++ [nr]) r := fun r ho h => by
          have e : lessV P (clearV P nr a r) nr (-(r.getD a 0)) = r := less_back p1 ho n1.1
          rw [← e]
          exact Sp.less p1 (fun r h => (hS3 r h).1) h nsp
        refine Sp.bind p1 hS2 (fun r h => (hS3 r h).1) (fun r h => ?_) (ih.sup q h)
        rcases h with h | h
        · rcases (hmem r).mp h with rfl | h2
          · rw [n5]
            exact Sp.less p1 (fun r h => (hS3 r h).1) .zero nsp
          · exact back r (ih.on r h) (Sp.mem p1 (.inl (List.mem_map.mpr ⟨r, h2, rfl⟩)) (con r (ih.on r h).1))
        · exact back r (son r h) (Sp.mem p1 (.inr (List.mem_append.mpr (.inl (List.mem_map.mpr ⟨r, h, rfl⟩)))) (con r (son r h).1))
      · have := ih.len
        simp only [List.length_map, List.length_append, List.length_cons, List.length_nil, List.length_eraseIdx, kl, if_true] at this ⊢
        omega
/-- the law's clearing makes the steps form -/
theorem red_eq : (redGo P rows wd).2 = stepsForm P rows := by
  have p1 := hp.one
  have p0 : 0 < P := by omega
  have ih := red_inv hp hr wd (Nat.le_refl _)
  obtain ⟨a, b, c⟩ := stepsForm_ok hp hr
  have zero : ∀ r ∈ (redGo P rows wd).1, r = zeroV wd := fun r h => vext p1 (ih.on r h) (zero_on p1) fun j hj => by
    rw [ih.nul r h j hj, rep_get]
    exact emEx ⟨0, by omega⟩
  have hS2 : ∀ r, (r ∈ (redGo P rows wd).1 ∨ r ∈ (redGo P rows wd).2) → r.length = wd := fun r h => by
    rcases h with h | h
    · exact (ih.on r h).1
    · exact (ih.st.on r h).1
  have toR : ∀ q ∈ rows, Sp P wd (· ∈ (redGo P rows wd).2) q := fun q hq => Sp.bind p1 hS2 ih.st.hS (fun r h => by
    rcases h with h | h
    · rw [zero r h]; exact .zero
    · exact Sp.mem p1 h (ih.st.on r h)) (ih.sup q hq)
  have hR : ∀ r, r ∈ rows → r.length = wd := fun r h => (hr r h).1
  refine steps_uniq hp.one ih.st a (fun g hg => ?_) (fun f hf => ?_)
  · exact Sp.bind p1 hR ih.st.hS toR (b g hg)
  · exact Sp.bind p1 hR a.hS c (ih.sub f (.inr hf))
end
end W

namespace W
/-! operators on sequences: sums of shifts; they commute -/
abbrev Sq := Nat → Int
inductive Gen : (Sq → Sq) → Prop
  | cst (c : Int) : Gen fun a j => c * a j
  | sh : Gen fun a j => a (j + 1)
  | add {f g : Sq → Sq} (h : Gen f) (k : Gen g) : Gen fun a j => f a j + g a j
  | mul {f g : Sq → Sq} (h : Gen f) (k : Gen g) : Gen fun a => f (g a)
theorem Gen.addS {f : Sq → Sq} (h : Gen f) : ∀ a b : Sq, f (fun j => a j + b j) = fun j => f a j + f b j := by
  induction h with
  | cst c => intro a b; funext j; exact Int.mul_add _ _ _
  | sh => intro a b; rfl
  | add h k ih ik => intro a b; funext j; dsimp only; rw [ih, ik]; dsimp only; omega
  | mul h k ih ik => intro a b; dsimp only; rw [ik, ih]
theorem Gen.mulS {f : Sq → Sq} (h : Gen f) : ∀ (c : Int) (a : Sq), f (fun j => c * a j) = fun j => c * f a j := by
  induction h with
  | cst c => intro d a; funext j; show c * (d * a j) = d * (c * a j); rw [← Int.mul_assoc, ← Int.mul_assoc, Int.mul_comm c d]
  | sh => intro a b; rfl
  | add h k ih ik => intro a b; funext j; dsimp only; rw [ih, ik]; exact (Int.mul_add _ _ _).symm
  | mul h k ih ik => intro a b; dsimp only; rw [ik, ih]
theorem Gen.shS {f : Sq → Sq} (h : Gen f) : ∀ a : Sq, f (fun j => a (j + 1)) = fun j => f a (j + 1) := by
  induction h with
  | cst c => intro a; rfl
  | sh => intro a; rfl
  | add h k ih ik => intro a; funext j; dsimp only; rw [ih, ik]
  | mul h k ih ik => intro a; dsimp only; rw [ik, ih]
theorem Gen.comm {f g : Sq → Sq} (h : Gen f) (k : Gen g) : ∀ a, f (g a) = g (f a) := by
  induction h with
  | cst c => intro a; exact (k.mulS c a).symm
  | sh => intro a; exact (k.shS a).symm
  | @add f1 f2 h1 h2 i1 i2 => intro a; rw [k.addS (f1 a) (f2 a)]; funext j; dsimp only; rw [i1, i2]
  | mul h1 h2 i1 i2 => intro a; dsimp only; rw [i2, i1]
def Opr := { f : Sq → Sq // Gen f }
namespace Opr
theorem ext {x y : Opr} (h : ∀ a j, x.1 a j = y.1 a j) : x = y := Subtype.ext (funext fun a => funext fun j => h a j)
def cst (c : Int) : Opr := ⟨_, .cst c⟩
def sh : Opr := ⟨_, .sh⟩
instance : Add Opr := ⟨fun x y => ⟨_, .add x.2 y.2⟩⟩
instance : Mul Opr := ⟨fun x y => ⟨_, .mul x.2 y.2⟩⟩
instance (n : Nat) : OfNat Opr n := ⟨cst n⟩
instance : NatCast Opr := ⟨fun n => cst n⟩
instance : IntCast Opr := ⟨fun n => cst n⟩
instance : Neg Opr := ⟨fun x => cst (-1) * x⟩
instance : Sub Opr := ⟨fun x y => x + -y⟩
instance : SMul Nat Opr := ⟨fun n x => cst n * x⟩
instance : SMul Int Opr := ⟨fun n x => cst n * x⟩
def npow (x : Opr) : Nat → Opr
  | 0 => 1
  | n + 1 => npow x n * x
instance : HPow Opr Nat Opr := ⟨npow⟩
theorem add_at (x y : Opr) (a : Sq) (j : Nat) : (x + y).1 a j = x.1 a j + y.1 a j := rfl
theorem mul_at (x y : Opr) (a : Sq) : (x * y).1 a = x.1 (y.1 a) := rfl
theorem cst_at (c : Int) (a : Sq) (j : Nat) : (cst c).1 a j = c * a j := rfl
theorem zero_at (a : Sq) (j : Nat) : (0 : Opr).1 a j = 0 := Int.zero_mul _
theorem one_at (a : Sq) (j : Nat) : (1 : Opr).1 a j = a j := Int.one_mul _
theorem one_fn (a : Sq) : (1 : Opr).1 a = a := funext fun j => one_at a j
theorem nil (x : Opr) : x.1 (fun _ => 0) = fun _ => 0 := by
  have := x.2.mulS 0 (fun _ => 0)
  simpa using this
instance : Lean.Grind.CommRing Opr where
  add_zero x := ext fun a j => by rw [add_at, zero_at, Int.add_zero]
  add_comm x y := ext fun a j => Int.add_comm _ _
  add_assoc x y z := ext fun a j => Int.add_assoc _ _ _
  mul_assoc x y z := rfl
  mul_one x := ext fun a j => by rw [mul_at, one_fn]
  one_mul x := ext fun a j => by rw [mul_at, one_fn]
  left_distrib x y z := ext fun a j => by
    rw [add_at, mul_at, mul_at, mul_at]
    exact congrFun (x.2.addS (y.1 a) (z.1 a)) j
  right_distrib x y z := ext fun a j => rfl
  zero_mul x := ext fun a j => by rw [mul_at, zero_at, zero_at]
  mul_zero x := ext fun a j => by
    rw [mul_at, zero_at, show (0 : Opr).1 a = fun _ => 0 from funext fun j => zero_at a j, nil]
  pow_zero x := rfl
  pow_succ x n := rfl
  ofNat_succ n := ext fun a j => by
    rw [add_at, one_at]
    show ((n + 1 : Nat) : Int) * a j = (n : Int) * a j + a j
    rw [Int.natCast_add, Int.add_mul]
    show _ + 1 * a j = _
    rw [Int.one_mul]
  ofNat_eq_natCast n := rfl
  nsmul_eq_natCast_mul n x := rfl
  neg_add_cancel x := ext fun a j => by
    rw [add_at, zero_at]
    show -1 * x.1 a j + x.1 a j = 0
    omega
  sub_eq_add_neg x y := rfl
  neg_zsmul i x := ext fun a j => by
    show -i * x.1 a j = -1 * (i * x.1 a j)
    rw [Int.neg_mul]; omega
  zsmul_natCast_eq_nsmul n x := rfl
  intCast_ofNat n := rfl
  intCast_neg i := ext fun a j => by
    show -i * a j = -1 * (i * a j)
    rw [Int.neg_mul]; omega
  mul_comm x y := ext fun a j => congrFun (x.2.comm y.2 a) j
end Opr
end W
namespace W
/-! commutative rings: binomials, the P-th power of a sum -/
def ch : Nat → Nat → Nat
  | _, 0 => 1
  | 0, _ + 1 => 0
  | n + 1, k + 1 => ch n k + ch n (k + 1)
theorem ch_gt : ∀ n k, n < k → ch n k = 0
  | 0, 0, h => absurd h (Nat.lt_irrefl _)
  | 0, k + 1, _ => rfl
  | n + 1, 0, h => by omega
  | n + 1, k + 1, h => by show ch n k + ch n (k + 1) = 0; rw [ch_gt n k (by omega), ch_gt n (k + 1) (by omega)]
theorem ch_self : ∀ n, ch n n = 1
  | 0 => rfl
  | n + 1 => by show ch n n + ch n (n + 1) = 1; rw [ch_self n, ch_gt n (n + 1) (by omega)]
theorem ch_zero (n : Nat) : ch n 0 = 1 := by cases n <;> rfl
theorem ch_mul : ∀ n k, (k + 1) * ch (n + 1) (k + 1) = (n + 1) * ch n k
  | 0, 0 => rfl
  | 0, k + 1 => by show (k + 2) * (ch 0 (k + 1) + ch 0 (k + 2)) = 1 * 0; rfl
  | n + 1, 0 => by
    have h := ch_mul n 0
    rw [ch_zero] at h
    show (0 + 1) * (ch (n + 1) 0 + ch (n + 1) 1) = (n + 1 + 1) * ch (n + 1) 0
    rw [ch_zero]
    simp only [Nat.zero_add, Nat.one_mul, Nat.mul_one] at *
    omega
  | n + 1, k + 1 => by
    have h1 := ch_mul n k
    have h2 := ch_mul n (k + 1)
    show (k + 1 + 1) * (ch (n + 1) (k + 1) + ch (n + 1) (k + 1 + 1)) = (n + 1 + 1) * ch (n + 1) (k + 1)
    have e : ch (n + 1) (k + 1) = ch n k + ch n (k + 1) := rfl
    rw [Nat.mul_add, h2, Nat.add_mul (k + 1) 1, h1, Nat.add_mul (n + 1) 1, e, Nat.mul_add (n + 1)]
    omega
/-- a prime among the Nats -/
def PrN (p : Nat) : Prop := 3 ≤ p ∧ ∀ d, 2 ≤ d → d < p → ¬ d ∣ p
theorem PrN.cop {p k : Nat} (h : PrN p) (h1 : 0 < k) (h2 : k < p) : Nat.Coprime p k := by
  have g1 : Nat.gcd p k ∣ p := Nat.gcd_dvd_left p k
  have g2 : Nat.gcd p k ≤ k := Nat.le_of_dvd h1 (Nat.gcd_dvd_right p k)
  have g3 : 0 < Nat.gcd p k := Nat.gcd_pos_of_pos_right p h1
  refine Classical.byContradiction fun hne => ?_
  have : Nat.gcd p k ≠ 1 := hne
  exact h.2 _ (by omega) (by omega) g1
theorem PrN.dvd_ch {p k : Nat} (h : PrN p) (h2 : k + 1 < p) : p ∣ ch p (k + 1) := by
  obtain ⟨m, rfl⟩ : ∃ m, p = m + 1 := ⟨p - 1, by have := h.1; omega⟩
  have e := ch_mul m k
  exact (h.cop (by omega) h2).dvd_of_dvd_mul_left ⟨ch m k, e⟩
section
open Lean.Grind
local instance ncast1 {R : Type} [CommRing R] : NatCast R := Semiring.natCast
variable {R : Type} [CommRing R]
def rs : Nat → (Nat → R) → R
  | 0, _ => 0
  | n + 1, f => rs n f + f n
theorem rs_congr {f g : Nat → R} : ∀ n, (∀ k, k < n → f k = g k) → rs n f = rs n g
  | 0, _ => rfl
  | n + 1, h => by show rs n f + f n = rs n g + g n; rw [rs_congr n fun k hk => h k (by omega), h n (by omega)]
theorem rs_add {f g : Nat → R} : ∀ n, rs n (fun k => f k + g k) = rs n f + rs n g
  | 0 => by show (0 : R) = 0 + 0; grind
  | n + 1 => by show rs n _ + _ = (rs n f + f n) + (rs n g + g n); rw [rs_add n]; grind
theorem rs_mul {f : Nat → R} (c : R) : ∀ n, rs n (fun k => c * f k) = c * rs n f
  | 0 => by show (0 : R) = c * 0; grind
  | n + 1 => by show rs n _ + _ = c * (rs n f + f n); rw [rs_mul c n]; grind
theorem rs_front {f : Nat → R} : ∀ n, rs (n + 1) f = f 0 + rs n fun k => f (k + 1)
  | 0 => by show (0 : R) + f 0 = f 0 + 0; grind
  | n + 1 => by
    have h := rs_front (f := f) n
    show rs (n + 1) f + f (n + 1) = f 0 + (rs n (fun k => f (k + 1)) + f (n + 1))
    rw [h]; grind
theorem nc_add (a b : Nat) : ((a + b : Nat) : R) = (a : R) + (b : R) := Semiring.natCast_add a b
theorem nc_mul (a b : Nat) : ((a * b : Nat) : R) = (a : R) * (b : R) := Semiring.natCast_mul a b
theorem nc_zero : ((0 : Nat) : R) = 0 := Semiring.natCast_zero
theorem nc_one : ((1 : Nat) : R) = 1 := Semiring.natCast_one
theorem pw_s (a : R) (n : Nat) : a ^ (n + 1) = a ^ n * a := Semiring.pow_succ a n
theorem pw_z (a : R) : a ^ 0 = 1 := Semiring.pow_zero a
theorem pw_a (a : R) (m : Nat) : ∀ n, a ^ (m + n) = a ^ m * a ^ n
  | 0 => by rw [Nat.add_zero, pw_z]; grind
  | n + 1 => by rw [← Nat.add_assoc, pw_s, pw_s, pw_a a m n]; grind
theorem pw_m (a : R) (m : Nat) : ∀ n, a ^ (m * n) = (a ^ m) ^ n
  | 0 => by rw [Nat.mul_zero, pw_z, pw_z]
  | n + 1 => by rw [Nat.mul_succ, pw_a, pw_m a m n, pw_s]
theorem mul_pw (a b : R) : ∀ n : Nat, (a * b) ^ n = a ^ n * b ^ n
  | 0 => by rw [pw_z, pw_z, pw_z]; grind
  | n + 1 => by rw [pw_s, pw_s, pw_s, mul_pw a b n]; grind
theorem one_pw : ∀ n : Nat, (1 : R) ^ n = 1
  | 0 => pw_z _
  | n + 1 => by rw [pw_s, one_pw n]; grind
def bt (a b : R) (n k : Nat) : R := (ch n k : R) * (a ^ k * b ^ (n - k))
theorem bt_s (a b : R) (n k : Nat) : bt a b (n + 1) (k + 1) = a * bt a b n k + b * bt a b n (k + 1) := by
  unfold bt
  have e : ch (n + 1) (k + 1) = ch n k + ch n (k + 1) := rfl
  rw [e, nc_add, pw_s, show n + 1 - (k + 1) = n - k by omega]
  rcases Nat.lt_or_ge k n with h | h
  · rw [show n - k = n - (k + 1) + 1 by omega, pw_s]
    grind
  · rw [ch_gt n (k + 1) (by omega), nc_zero]
    grind
theorem bin (a b : R) : ∀ n, (a + b) ^ n = rs (n + 1) (bt a b n)
  | 0 => by
    show _ = (0 : R) + bt a b 0 0
    unfold bt
    rw [pw_z, ch_zero, nc_one, pw_z, pw_z]
    grind
  | n + 1 => by
    rw [pw_s, bin a b n, rs_front (n + 1), rs_congr (g := fun k => a * bt a b n k + b * bt a b n (k + 1)) (n + 1) (fun k _ => bt_s a b n k), rs_add, rs_mul, rs_mul]
    have h1 : rs (n + 2) (bt a b n) = bt a b n 0 + rs (n + 1) fun k => bt a b n (k + 1) := rs_front (n + 1)
    have h2 : rs (n + 2) (bt a b n) = rs (n + 1) (bt a b n) + bt a b n (n + 1) := rfl
    have h3 : bt a b n (n + 1) = 0 := by
      unfold bt
      rw [ch_gt n (n + 1) (by omega), nc_zero]; grind
    have h4 : bt a b (n + 1) 0 = b * bt a b n 0 := by
      unfold bt
      rw [ch_zero, ch_zero, nc_one, pw_z, Nat.sub_zero, Nat.sub_zero, pw_s]; grind
    rw [h4]
    generalize rs (n + 1) (bt a b n) = x at *
    generalize rs (n + 1) (fun k => bt a b n (k + 1)) = y at *
    generalize rs (n + 2) (bt a b n) = z at *
    grind
/-- the P-th power of a sum -/
theorem frob {p : Nat} (hp : PrN p) (a b : R) : ∃ q : R, (a + b) ^ p = a ^ p + b ^ p + (p : R) * q := by
  have p3 := hp.1
  have key : ∀ n, n + 1 ≤ p → ∃ q : R, rs n (fun k => bt a b p (k + 1)) = (p : R) * q := fun n => by
    induction n with
    | zero => intro _; exact ⟨0, by show (0 : R) = _; grind⟩
    | succ n ih =>
      intro hn
      obtain ⟨q, hq⟩ := ih (by omega)
      obtain ⟨m, hm⟩ := hp.dvd_ch (k := n) (by omega)
      refine ⟨q + (m : R) * (a ^ (n + 1) * b ^ (p - (n + 1))), ?_⟩
      show rs n _ + bt a b p (n + 1) = _
      rw [hq]
      unfold bt
      rw [hm, nc_mul]
      grind
  obtain ⟨q, hq⟩ := key (p - 1) (by omega)
  refine ⟨q, ?_⟩
  rw [bin, rs_front p]
  obtain ⟨m, rfl⟩ : ∃ m, p = m + 1 := ⟨p - 1, by omega⟩
  have e : rs (m + 1) (fun k => bt a b (m + 1) (k + 1)) = rs m (fun k => bt a b (m + 1) (k + 1)) + bt a b (m + 1) (m + 1) := rfl
  have e2 : m + 1 - 1 = m := rfl
  rw [e2] at hq
  rw [e, hq]
  have e3 : bt a b (m + 1) (m + 1) = a ^ (m + 1) := by unfold bt; rw [ch_self, nc_one, Nat.sub_self, pw_z]; grind
  have e4 : bt a b (m + 1) 0 = b ^ (m + 1) := by unfold bt; rw [ch_zero, nc_one, pw_z, Nat.sub_zero]; grind
  rw [e3, e4]
  grind
/-- an ideal that holds p -/
structure Ide (I : R → Prop) (p : Nat) : Prop where
  add : ∀ {a b}, I a → I b → I (a + b)
  mul : ∀ {a} (b), I a → I (b * a)
  p : I (p : R)
section
variable {I : R → Prop} {p : Nat} (hI : Ide I p)
include hI
theorem Ide.eq {a b : R} (h : I a) (e : a = b) : I b := e ▸ h
theorem Ide.sub {a b : R} (h : I a) (k : I b) : I (a - b) := hI.eq (hI.add h (hI.mul (-1) k)) (by grind)
theorem Ide.lin {a b : R} (u v : R) (h : I a) (k : I b) : I (u * a + v * b) := hI.add (hI.mul u h) (hI.mul v k)
theorem Ide.zero : I 0 := hI.eq (hI.mul 0 hI.p) (by grind)
theorem Ide.tr {a b : R} (h : I (a - b)) (k : I b) : I a := hI.eq (hI.add h k) (by grind)
theorem Ide.pow {a b : R} (h : I (a - b)) : ∀ n : Nat, I (a ^ n - b ^ n)
  | 0 => hI.eq hI.zero (by rw [pw_z, pw_z]; grind)
  | n + 1 => hI.eq (hI.lin a (b ^ n) (Ide.pow h n) h) (by rw [pw_s, pw_s]; grind)
theorem Ide.frob (hp : PrN p) (a b : R) : I ((a + b) ^ p - (a ^ p + b ^ p)) := by
  obtain ⟨q, hq⟩ := W.frob hp a b
  exact hI.eq (hI.mul q hI.p) (by rw [hq]; grind)
/-- a number is its P-th power -/
theorem Ide.ferm (hp : PrN p) : ∀ c : Nat, I ((c : R) ^ p - (c : R))
  | 0 => hI.eq hI.zero (by
    obtain ⟨m, rfl⟩ : ∃ m, p = m + 1 := ⟨p - 1, by have := hp.1; omega⟩
    rw [nc_zero, pw_s]; grind)
  | c + 1 => by
    have h := Ide.ferm hp c
    have k := hI.frob hp (c : R) 1
    rw [nc_add, nc_one]
    rw [one_pw] at k
    exact hI.eq (hI.add k h) (by grind)
/-- a number that p does not divide may be left out -/
theorem Ide.can0 (hp : PrN p) {a : R} : ∀ (m c : Nat), c ≤ m → 0 < c → c < p → I ((c : R) * a) → I a
  | 0, c, h, h0, _, _ => by omega
  | m + 1, c, h, h0, h1, hc => by
    by_cases e : c = 1
    · subst e
      exact hI.eq hc (by rw [nc_one]; grind)
    · have r0 : p % c ≠ 0 := fun z => hp.2 c (by omega) h1 (Nat.dvd_of_mod_eq_zero z)
      have r1 : p % c < c := Nat.mod_lt _ h0
      refine Ide.can0 hp m (p % c) (by omega) (by omega) (by omega) ?_
      have e2 : c * (p / c) + p % c = p := Nat.div_add_mod p c
      have e3 : (p : R) = (c : R) * ((p / c : Nat) : R) + ((p % c : Nat) : R) := by rw [← nc_mul, ← nc_add, e2]
      exact hI.eq (hI.sub (hI.mul a hI.p) (hI.mul ((p / c : Nat) : R) hc)) (by rw [e3]; grind)
theorem Ide.can (hp : PrN p) {c : Nat} (h0 : c % p ≠ 0) {a : R} (h : I ((c : R) * a)) : I a := by
  have p3 := hp.1
  refine hI.can0 hp (c % p) (c % p) (Nat.le_refl _) (by omega) (Nat.mod_lt _ (by omega)) ?_
  have e2 : p * (c / p) + c % p = c := Nat.div_add_mod c p
  have e3 : (c : R) = (p : R) * ((c / p : Nat) : R) + ((c % p : Nat) : R) := by rw [← nc_mul, ← nc_add, e2]
  exact hI.eq (hI.sub h (hI.mul (((c / p : Nat) : R) * a) hI.p)) (by rw [e3]; grind)
end
end
end W
namespace W
section
open Lean.Grind
local instance ncast2 {R : Type} [CommRing R] : NatCast R := Semiring.natCast
variable {R : Type} [CommRing R] {I : R → Prop} {p : Nat} (hI : Ide I p) (hp : PrN p)
include hI
/-- Vandermonde, up to the third degree -/
theorem van1 {c0 c1 y0 y1 : R} (h0 : I (c0 + c1 * y0)) (h1 : I (c0 + c1 * y1)) : I (c1 * (y1 - y0)) := hI.eq (hI.sub h1 h0) (by grind)
theorem van2 {c0 c1 c2 y0 y1 y2 : R} (h0 : I (c0 + c1 * y0 + c2 * y0 ^ 2)) (h1 : I (c0 + c1 * y1 + c2 * y1 ^ 2)) (h2 : I (c0 + c1 * y2 + c2 * y2 ^ 2)) : I (c2 * ((y1 - y0) * (y2 - y0) * (y2 - y1))) := by
  have a1 : I ((y1 - y0) * (c1 + c2 * (y1 + y0))) := hI.eq (hI.sub h1 h0) (by grind)
  have a2 : I ((y2 - y0) * (c1 + c2 * (y2 + y0))) := hI.eq (hI.sub h2 h0) (by grind)
  exact hI.eq (hI.sub (hI.mul (y1 - y0) a2) (hI.mul (y2 - y0) a1)) (by grind)
theorem van3 {c0 c1 c2 c3 y0 y1 y2 y3 : R} (h0 : I (c0 + c1 * y0 + c2 * y0 ^ 2 + c3 * y0 ^ 3)) (h1 : I (c0 + c1 * y1 + c2 * y1 ^ 2 + c3 * y1 ^ 3)) (h2 : I (c0 + c1 * y2 + c2 * y2 ^ 2 + c3 * y2 ^ 3)) (h3 : I (c0 + c1 * y3 + c2 * y3 ^ 2 + c3 * y3 ^ 3)) :
    I (c3 * ((y1 - y0) * (y2 - y0) * (y3 - y0) * (y2 - y1) * (y3 - y1) * (y3 - y2))) := by
  have a1 : I ((y1 - y0) * (c1 + c2 * (y1 + y0) + c3 * (y1 ^ 2 + y1 * y0 + y0 ^ 2))) := hI.eq (hI.sub h1 h0) (by grind)
  have a2 : I ((y2 - y0) * (c1 + c2 * (y2 + y0) + c3 * (y2 ^ 2 + y2 * y0 + y0 ^ 2))) := hI.eq (hI.sub h2 h0) (by grind)
  have a3 : I ((y3 - y0) * (c1 + c2 * (y3 + y0) + c3 * (y3 ^ 2 + y3 * y0 + y0 ^ 2))) := hI.eq (hI.sub h3 h0) (by grind)
  have b2 : I ((y1 - y0) * (y2 - y0) * (y2 - y1) * (c2 + c3 * (y2 + y1 + y0))) := hI.eq (hI.sub (hI.mul (y1 - y0) a2) (hI.mul (y2 - y0) a1)) (by grind)
  have b3 : I ((y1 - y0) * (y3 - y0) * (y3 - y1) * (c2 + c3 * (y3 + y1 + y0))) := hI.eq (hI.sub (hI.mul (y1 - y0) a3) (hI.mul (y3 - y0) a1)) (by grind)
  exact hI.eq (hI.sub (hI.mul ((y2 - y0) * (y2 - y1)) b3) (hI.mul ((y3 - y0) * (y3 - y1)) b2)) (by grind)
/-! values of a polynomial at P-th powers -/
theorem pw_ne {n : Nat} (h : 0 < n) {a : R} (ha : I a) : I (a ^ n) := by
  obtain ⟨m, rfl⟩ : ∃ m, n = m + 1 := ⟨n - 1, by omega⟩
  rw [pw_s]
  exact hI.mul _ ha
include hp
theorem mono_pw (c : Nat) (y : R) (i : Nat) : I (((c : R) * y ^ i) ^ p - (c : R) * (y ^ p) ^ i) := by
  have h := hI.ferm hp c
  have e : (y ^ i) ^ p = (y ^ p) ^ i := by rw [← pw_m, ← pw_m, Nat.mul_comm]
  rw [mul_pw, e]
  exact hI.eq (hI.mul ((y ^ p) ^ i) h) (by grind)
theorem poly_pw {c0 c1 c2 c3 : Nat} {y : R} (h : I ((c0 : R) + (c1 : R) * y + (c2 : R) * y ^ 2 + (c3 : R) * y ^ 3)) : I ((c0 : R) + (c1 : R) * y ^ p + (c2 : R) * (y ^ p) ^ 2 + (c3 : R) * (y ^ p) ^ 3) := by
  have p3 := hp.1
  have k := pw_ne hI (n := p) (by omega) h
  have f1 := hI.frob hp ((c0 : R) + (c1 : R) * y + (c2 : R) * y ^ 2) ((c3 : R) * y ^ 3)
  have f2 := hI.frob hp ((c0 : R) + (c1 : R) * y) ((c2 : R) * y ^ 2)
  have f3 := hI.frob hp (c0 : R) ((c1 : R) * y)
  have m0 := hI.ferm hp c0
  have m1 := mono_pw hI hp c1 y 1
  have m2 := mono_pw hI hp c2 y 2
  have m3 := mono_pw hI hp c3 y 3
  have e1 : y ^ 1 = y := by rw [pw_s, pw_z]; grind
  have e2 : (y ^ p) ^ 1 = y ^ p := by rw [pw_s, pw_z]; grind
  rw [e1, e2] at m1
  have s1 := hI.sub k f1
  have s2 := hI.sub s1 f2
  have s3 := hI.sub s2 f3
  have s4 := hI.sub s3 m0
  have s5 := hI.sub s4 m1
  have s6 := hI.sub s5 m2
  have s7 := hI.sub s6 m3
  refine hI.eq s7 ?_
  generalize (c0 : R) ^ p = d0
  generalize ((c1 : R) * y) ^ p = d1
  generalize ((c2 : R) * y ^ 2) ^ p = d2
  generalize ((c3 : R) * y ^ 3) ^ p = d3
  generalize ((c0 : R) + (c1 : R) * y + (c2 : R) * y ^ 2 + (c3 : R) * y ^ 3) ^ p = d4
  generalize ((c0 : R) + (c1 : R) * y + (c2 : R) * y ^ 2) ^ p = d5
  generalize ((c0 : R) + (c1 : R) * y) ^ p = d6
  grind
/-! powers of x less 1 -/
omit hI hp in
/-- x ^ m - 1 divides x ^ (m k) - 1 -/
theorem geo (x : R) (m : Nat) : ∀ k : Nat, ∃ q : R, x ^ (m * k) - 1 = q * (x ^ m - 1)
  | 0 => ⟨0, by rw [Nat.mul_zero, pw_z]; grind⟩
  | k + 1 => by
    obtain ⟨q, hq⟩ := geo x m k
    refine ⟨q * x ^ m + 1, ?_⟩
    rw [Nat.mul_succ, pw_a]
    have : x ^ (m * k) = q * (x ^ m - 1) + 1 := by rw [← hq]; grind
    rw [this]; grind
theorem sub_pw (a b : R) : I ((a - b) ^ p - (a ^ p - b ^ p)) := by
  have f := hI.frob hp (a - b) b
  have e : a - b + b = a := by grind
  rw [e] at f
  exact hI.eq (hI.mul (-1) f) (by grind)
theorem sub_pwi (a b : R) : ∀ i : Nat, I ((a - b) ^ (p ^ i) - (a ^ (p ^ i) - b ^ (p ^ i)))
  | 0 => hI.eq hI.zero (by
    show _ = (a - b) ^ (p ^ 0) - (a ^ (p ^ 0) - b ^ (p ^ 0))
    rw [Nat.pow_zero, pw_s, pw_z, pw_s, pw_z, pw_s, pw_z]; grind)
  | i + 1 => by
    have h := sub_pwi a b i
    have k := hI.pow h p
    rw [← pw_m, ← Nat.pow_succ] at k
    have f := sub_pw hI hp (a ^ (p ^ i)) (b ^ (p ^ i))
    rw [← pw_m, ← pw_m, ← Nat.pow_succ] at f
    exact hI.eq (hI.add k f) (by grind)
/-- a difference of P-th powers may be changed for powers of x and of x ^ L - 1 -/
theorem dif_out {x b : R} {L i d : Nat} (hd : 0 < d) (hL : (p ^ d - 1) ∣ L) (h : I (b * (x ^ (p ^ (i + d)) - x ^ (p ^ i)))) : I (b * (x ^ (p ^ i) * (x ^ L - 1) ^ (p ^ i))) := by
  have p3 := hp.1
  obtain ⟨k, rfl⟩ := hL
  obtain ⟨q, hq⟩ := geo x (p ^ d - 1) k
  have pd : 1 ≤ p ^ d := Nat.pow_pos (by omega)
  have e : p ^ (i + d) = p ^ i + (p ^ d - 1) * p ^ i := by
    rw [Nat.pow_add, Nat.sub_mul, Nat.one_mul, Nat.mul_comm (p ^ d)]
    have := Nat.le_mul_of_pos_right (p ^ i) pd
    omega
  have f := sub_pwi hI hp (x ^ (p ^ d - 1)) 1 i
  rw [one_pw, ← pw_m] at f
  rw [hq, mul_pw]
  rw [e, pw_a] at h
  refine hI.eq (hI.lin (q ^ (p ^ i)) (b * x ^ (p ^ i) * q ^ (p ^ i)) h f) ?_
  generalize x ^ (p ^ i) = u
  generalize x ^ ((p ^ d - 1) * p ^ i) = v
  generalize (x ^ (p ^ d - 1) - 1) ^ p ^ i = z
  generalize q ^ p ^ i = r
  grind
end
end W
namespace W
section
open Lean.Grind
local instance ncast3 {R : Type} [CommRing R] : NatCast R := Semiring.natCast
variable {R : Type} [CommRing R] {I : R → Prop} {p : Nat} (hI : Ide I p) (hp : PrN p)
include hI hp
theorem dif_swap {b : R} {a c : R} (h : I (b * (a * c))) : I (b * a * c) := hI.eq h (by grind)
/-- the polynomial's values give a power of x ^ L - 1 that is in the ideal; 1 ≤ n ≤ 3 -/
theorem pow_in {x : R} {c0 c1 c2 c3 L : Nat} {n : Nat} (hn : n ≤ 3) (hL : ∀ d, 1 ≤ d → d ≤ n → (p ^ d - 1) ∣ L) (h2 : 2 ≤ n ∨ c2 % p = 0) (h3 : 3 ≤ n ∨ c3 % p = 0) (h1 : 1 ≤ n ∨ c1 % p = 0)
    (hc : c0 % p ≠ 0 ∨ c1 % p ≠ 0 ∨ c2 % p ≠ 0 ∨ c3 % p ≠ 0) (h : I ((c0 : R) + (c1 : R) * x + (c2 : R) * x ^ 2 + (c3 : R) * x ^ 3)) : ∃ s m : Nat, I (x ^ s * (x ^ L - 1) ^ m) := by
  have p3 := hp.1
  have z : ∀ {c : Nat} (y : R), c % p = 0 → I ((c : R) * y) := fun {c} y hc => by
    obtain ⟨k, rfl⟩ := Nat.dvd_of_mod_eq_zero hc
    exact hI.eq (hI.mul ((k : R) * y) hI.p) (by rw [nc_mul]; grind)
  have v0 := h
  have v1 := poly_pw hI hp v0
  have v2 := poly_pw hI hp v1
  have v3 := poly_pw hI hp v2
  have q1 : x ^ p = x ^ (p ^ 1) := by rw [Nat.pow_one]
  have q2 : (x ^ p) ^ p = x ^ (p ^ 2) := by rw [← pw_m, show p ^ 2 = p * p by rw [Nat.pow_succ, Nat.pow_one]]
  have q3 : ((x ^ p) ^ p) ^ p = x ^ (p ^ 3) := by rw [q2, ← pw_m, ← Nat.pow_succ]
  have q0 : x = x ^ (p ^ 0) := by rw [Nat.pow_zero, pw_s, pw_z]; grind
  rw [q3] at v3
  rw [q2] at v2
  rw [q1] at v1
  rw [q0] at v0
  by_cases e3 : c3 % p = 0
  · -- no cube
    have w0 := hI.sub v0 (z ((x ^ (p ^ 0)) ^ 3) e3)
    have w1 := hI.sub v1 (z ((x ^ (p ^ 1)) ^ 3) e3)
    have w2 := hI.sub v2 (z ((x ^ (p ^ 2)) ^ 3) e3)
    by_cases e2 : c2 % p = 0
    · have u0 := hI.sub w0 (z ((x ^ (p ^ 0)) ^ 2) e2)
      have u1 := hI.sub w1 (z ((x ^ (p ^ 1)) ^ 2) e2)
      by_cases e1 : c1 % p = 0
      · have t0 := hI.sub u0 (z (x ^ (p ^ 0)) e1)
        have t1 : I ((c0 : R) * 1) := hI.eq t0 (by grind)
        have t2 := hI.can hp (show c0 % p ≠ 0 by rcases hc with k | k | k | k <;> first | exact k | exact absurd (by assumption) k) t1
        exact ⟨0, 0, hI.eq t2 (by rw [pw_z, pw_z]; grind)⟩
      · have r := van1 hI (c0 := (c0 : R)) (c1 := (c1 : R)) (y0 := x ^ (p ^ 0)) (y1 := x ^ (p ^ 1)) (hI.eq u0 (by grind)) (hI.eq u1 (by grind))
        have r1 := hI.can hp e1 r
        have r2 : I (1 * (x ^ (p ^ (0 + 1)) - x ^ (p ^ 0))) := hI.eq r1 (by grind)
        have n1 : 1 ≤ n := by rcases h1 with k | k; exact k; exact absurd k e1
        exact ⟨p ^ 0, p ^ 0, hI.eq (dif_out hI hp (x := x) (L := L) (by decide) (hL 1 (by omega) (by omega)) r2) (by generalize x ^ (p ^ 0) = u; generalize (x ^ L - 1) ^ (p ^ 0) = v; grind)⟩
    · have n2 : 2 ≤ n := by rcases h2 with k | k; exact k; exact absurd k e2
      have r := van2 hI (c0 := (c0 : R)) (c1 := (c1 : R)) (c2 := (c2 : R)) (y0 := x ^ (p ^ 0)) (y1 := x ^ (p ^ 1)) (y2 := x ^ (p ^ 2)) (hI.eq w0 (by grind)) (hI.eq w1 (by grind)) (hI.eq w2 (by grind))
      have r1 := hI.can hp e2 r
      have a1 := dif_out hI hp (x := x) (L := L) (i := 1) (d := 1) (b := (x ^ (p ^ 1) - x ^ (p ^ 0)) * (x ^ (p ^ 2) - x ^ (p ^ 0))) (by decide) (hL 1 (by omega) (by omega)) r1
      generalize hg1 : x ^ (p ^ 1) * (x ^ L - 1) ^ (p ^ 1) = g1 at a1
      have a2 := dif_out hI hp (x := x) (L := L) (i := 0) (d := 2) (b := g1 * (x ^ (p ^ 1) - x ^ (p ^ 0))) (by decide) (hL 2 (by omega) (by omega)) (hI.eq a1 (by grind))
      generalize hg2 : x ^ (p ^ 0) * (x ^ L - 1) ^ (p ^ 0) = g2 at a2
      have a3 := dif_out hI hp (x := x) (L := L) (i := 0) (d := 1) (b := g1 * g2) (by decide) (hL 1 (by omega) (by omega)) (hI.eq a2 (by grind))
      rw [hg2] at a3
      refine ⟨p ^ 1 + (p ^ 0 + p ^ 0), p ^ 1 + (p ^ 0 + p ^ 0), hI.eq a3 ?_⟩
      rw [← hg1, ← hg2, pw_a, pw_a, pw_a, pw_a]
      grind
  · have n3 : 3 ≤ n := by rcases h3 with k | k; exact k; exact absurd k e3
    have r := van3 hI v0 v1 v2 v3
    have r1 := hI.can hp e3 r
    have a1 := dif_out hI hp (x := x) (L := L) (i := 2) (d := 1) (b := (x ^ (p ^ 1) - x ^ (p ^ 0)) * (x ^ (p ^ 2) - x ^ (p ^ 0)) * (x ^ (p ^ 3) - x ^ (p ^ 0)) * (x ^ (p ^ 2) - x ^ (p ^ 1)) * (x ^ (p ^ 3) - x ^ (p ^ 1))) (by decide) (hL 1 (by omega) (by omega)) r1
    generalize hg1 : x ^ (p ^ 2) * (x ^ L - 1) ^ (p ^ 2) = g1 at a1
    have a2 := dif_out hI hp (x := x) (L := L) (i := 1) (d := 2) (b := g1 * ((x ^ (p ^ 1) - x ^ (p ^ 0)) * (x ^ (p ^ 2) - x ^ (p ^ 0)) * (x ^ (p ^ 3) - x ^ (p ^ 0)) * (x ^ (p ^ 2) - x ^ (p ^ 1)))) (by decide) (hL 2 (by omega) (by omega)) (hI.eq a1 (by grind))
    generalize hg2 : x ^ (p ^ 1) * (x ^ L - 1) ^ (p ^ 1) = g2 at a2
    have a3 := dif_out hI hp (x := x) (L := L) (i := 1) (d := 1) (b := g1 * g2 * ((x ^ (p ^ 1) - x ^ (p ^ 0)) * (x ^ (p ^ 2) - x ^ (p ^ 0)) * (x ^ (p ^ 3) - x ^ (p ^ 0)))) (by decide) (hL 1 (by omega) (by omega)) (hI.eq a2 (by grind))
    rw [hg2] at a3
    have a4 := dif_out hI hp (x := x) (L := L) (i := 0) (d := 3) (b := g1 * g2 * g2 * ((x ^ (p ^ 1) - x ^ (p ^ 0)) * (x ^ (p ^ 2) - x ^ (p ^ 0)))) (by decide) (hL 3 (by omega) (by omega)) (hI.eq a3 (by grind))
    generalize hg3 : x ^ (p ^ 0) * (x ^ L - 1) ^ (p ^ 0) = g3 at a4
    have a5 := dif_out hI hp (x := x) (L := L) (i := 0) (d := 2) (b := g1 * g2 * g2 * g3 * (x ^ (p ^ 1) - x ^ (p ^ 0))) (by decide) (hL 2 (by omega) (by omega)) (hI.eq a4 (by grind))
    rw [hg3] at a5
    have a6 := dif_out hI hp (x := x) (L := L) (i := 0) (d := 1) (b := g1 * g2 * g2 * g3 * g3) (by decide) (hL 1 (by omega) (by omega)) (hI.eq a5 (by grind))
    rw [hg3] at a6
    refine ⟨p ^ 2 + (p ^ 1 + (p ^ 1 + (p ^ 0 + (p ^ 0 + p ^ 0)))), p ^ 2 + (p ^ 1 + (p ^ 1 + (p ^ 0 + (p ^ 0 + p ^ 0)))), hI.eq a6 ?_⟩
    rw [← hg1, ← hg2, ← hg3]
    simp only [pw_a]
    grind
/-! few dimensions: high powers are not wanted -/
omit hp in
theorem rs_in {f : Nat → R} : ∀ n, (∀ k, k < n → I (f k)) → I (rs n f)
  | 0, _ => hI.zero
  | n + 1, h => hI.add (rs_in n fun k hk => h k (by omega)) (h n (by omega))
omit hp in
theorem rs_one {f : Nat → R} {i : Nat} : ∀ n, i < n → (∀ k, k < n → k ≠ i → I (f k)) → I (rs n f) → I (f i)
  | n + 1, hi, h, hs => by
    by_cases e : i = n
    · subst e
      exact hI.eq (hI.sub hs (rs_in hI i fun k hk => h k (by omega) (by omega))) (by show rs i f + f i - rs i f = f i; grind)
    · exact rs_one n (by omega) (fun k hk hne => h k (by omega) hne) (hI.eq (hI.sub hs (h n (by omega) (fun z => e z.symm))) (by show rs n f + f n - f n = rs n f; grind))
/-- among any n + 1 there is a sum that is in the ideal -/
def Dep (I : R → Prop) (p n : Nat) : Prop := ∀ f : Nat → R, ∃ c : Nat → Nat, (∃ i, i ≤ n ∧ c i % p ≠ 0) ∧ I (rs (n + 1) fun i => (c i : R) * f i)
theorem few {n : Nat} (hd : Dep I p n) (b g : R) {m : Nat} (h : I (b * g ^ m)) : I (b * g ^ n) := by
  have least : ∀ m : Nat, I (b * g ^ m) → ∃ m0, I (b * g ^ m0) ∧ ∀ k, k < m0 → ¬ I (b * g ^ k) := fun m => by
    induction m using Nat.strongRecOn with
    | _ m ih =>
      intro hm
      by_cases e : ∃ k, k < m ∧ I (b * g ^ k)
      · obtain ⟨k, hk, hk2⟩ := e
        exact ih k hk hk2
      · exact ⟨m, hm, fun k hk hk2 => e ⟨k, hk, hk2⟩⟩
  obtain ⟨m0, h0, hl⟩ := least m h
  have up : ∀ k, m0 ≤ k → I (b * g ^ k) := fun k hk => by
    obtain ⟨d, rfl⟩ := Nat.exists_eq_add_of_le hk
    exact hI.eq (hI.mul (g ^ d) h0) (by rw [pw_a]; grind)
  rcases Nat.lt_or_ge n m0 with hn | hn
  · exfalso
    obtain ⟨c, ⟨i, hi, hci⟩, hs⟩ := hd fun i => b * g ^ i
    -- the least place whose number counts
    have lp : ∀ i : Nat, c i % p ≠ 0 → ∃ i0, i0 ≤ i ∧ c i0 % p ≠ 0 ∧ ∀ k, k < i0 → c k % p = 0 := fun i => by
      induction i using Nat.strongRecOn with
      | _ i ih =>
        intro hi
        by_cases e : ∃ k, k < i ∧ c k % p ≠ 0
        · obtain ⟨k, hk, hk2⟩ := e
          obtain ⟨i0, a, b, d⟩ := ih k hk hk2
          exact ⟨i0, by omega, b, d⟩
        · exact ⟨i, Nat.le_refl _, hi, fun k hk => Classical.byContradiction fun hk2 => e ⟨k, hk, hk2⟩⟩
    obtain ⟨i0, l1, l2, l3⟩ := lp i hci
    have s1 := hI.mul (g ^ (m0 - 1 - i0)) hs
    rw [← rs_mul] at s1
    have t := rs_one hI (i := i0) (n + 1) (by omega) (fun k hk hne => ?_) s1
    · have t2 : I ((c i0 : R) * (b * g ^ (m0 - 1))) := hI.eq t (by
        have e : m0 - 1 = (m0 - 1 - i0) + i0 := by omega
        generalize m0 - 1 - i0 = u at *
        rw [e, pw_a]; grind)
      exact hl (m0 - 1) (by omega) (hI.can hp l2 t2)
    · rcases Nat.lt_or_ge k i0 with hk2 | hk2
      · obtain ⟨q, hq⟩ := Nat.dvd_of_mod_eq_zero (l3 k hk2)
        rw [hq, nc_mul]
        exact hI.eq (hI.mul (g ^ (m0 - 1 - i0) * (q : R) * (b * g ^ k)) hI.p) (by grind)
      · have := up (m0 - 1 - i0 + k) (by omega)
        exact hI.eq (hI.mul (c k : R) this) (by rw [pw_a]; grind)
  · exact up n hn
end
end W

namespace W
open LR
/-! the law's own back: a power -/
def powM (P x : Int) (e : Nat) : Int := x ^ e % P
theorem powM_zero {P x : Int} (p1 : 1 < P) : powM P x 0 = 1 := by
  unfold powM
  rw [Int.pow_zero]
  exact Int.emod_eq_of_lt (by omega) p1
theorem powM_add {P x : Int} (a b : Nat) : powM P x a * powM P x b % P = powM P x (a + b) := by
  unfold powM
  rw [Int.pow_add, Int.mul_emod (x ^ a) (x ^ b)]
def bkGo (P x : Int) : Nat → Int × Int × Int
  | 0 => (1, x, P - 2)
  | i + 1 => (if (bkGo P x i).2.2 % 2 = 1 then (bkGo P x i).1 * (bkGo P x i).2.1 % P else (bkGo P x i).1, (bkGo P x i).2.1 * (bkGo P x i).2.1 % P, (bkGo P x i).2.2 / 2)
theorem bkGo_eq {P x : Int} (p3 : 3 ≤ P) (x0 : 0 ≤ x) (x1 : x < P) : ∀ i, bkGo P x i = (powM P x ((P - 2).toNat % 2 ^ i), powM P x (2 ^ i), (((P - 2).toNat / 2 ^ i : Nat) : Int))
  | 0 => by
    have e1 : powM P x ((P - 2).toNat % 2 ^ 0) = 1 := by rw [Nat.pow_zero, Nat.mod_one]; exact powM_zero (by omega)
    have e2 : powM P x (2 ^ 0) = x := by unfold powM; rw [Nat.pow_zero, Int.pow_succ, Int.pow_zero, Int.one_mul]; exact Int.emod_eq_of_lt x0 x1
    have e3 : (((P - 2).toNat / 2 ^ 0 : Nat) : Int) = P - 2 := by rw [Nat.pow_zero, Nat.div_one]; omega
    rw [e1, e2, e3]
    rfl
  | i + 1 => by
    have ih := bkGo_eq p3 x0 x1 i
    have e : bkGo P x (i + 1) = (if (bkGo P x i).2.2 % 2 = 1 then (bkGo P x i).1 * (bkGo P x i).2.1 % P else (bkGo P x i).1, (bkGo P x i).2.1 * (bkGo P x i).2.1 % P, (bkGo P x i).2.2 / 2) := rfl
    rw [e, ih]
    simp only
    generalize (P - 2).toNat = m
    have h2 : m % 2 ^ (i + 1) = m % 2 ^ i + 2 ^ i * (m / 2 ^ i % 2) := by rw [Nat.pow_succ, Nat.mod_mul]
    have h3 : ((m / 2 ^ i : Nat) : Int) / 2 = ((m / 2 ^ (i + 1) : Nat) : Int) := by
      rw [Nat.pow_succ, ← Nat.div_div_eq_div_mul]
      exact (Int.natCast_ediv _ 2).symm
    have h4 : powM P x (2 ^ i) * powM P x (2 ^ i) % P = powM P x (2 ^ (i + 1)) := by rw [powM_add, Nat.pow_succ, Nat.mul_two]
    rw [h3, h4]
    congr 1
    rcases Nat.mod_two_eq_zero_or_one (m / 2 ^ i) with z | z
    · rw [if_neg (by omega), h2, z, Nat.mul_zero, Nat.add_zero]
    · rw [if_pos (by omega), h2, z, Nat.mul_one, powM_add]
theorem bk_stop {P : Int} (p3 : 3 ≤ P) (p9 : P ≤ 9999) : ∃ k : Nat, k ≤ 14 ∧ (∀ i : Nat, i < k → decide ((0 : Int) < (((P - 2).toNat / 2 ^ i : Nat) : Int)) = true) ∧ decide ((0 : Int) < (((P - 2).toNat / 2 ^ k : Nat) : Int)) = false ∧ (P - 2).toNat < 2 ^ k := by
  obtain ⟨k, a, b, c⟩ := first_not (fun i : Nat => decide ((0 : Int) < (((P - 2).toNat / 2 ^ i : Nat) : Int))) 14 (decide_eq_false (by
    have : (P - 2).toNat / 2 ^ 14 = 0 := Nat.div_eq_of_lt (by show _ < 16384; omega)
    omega))
  refine ⟨k, a, b, c, ?_⟩
  have c2 := of_decide_eq_false c
  refine Classical.byContradiction fun hn => ?_
  have : 0 < (P - 2).toNat / 2 ^ k := Nat.div_pos (by omega) (Nat.two_pow_pos k)
  omega
theorem fermat {P : Int} (hp : Prm P) (c : Nat) : P ∣ (c : Int) ^ P.toNat - c := by
  have p3 := hp.lo
  have hI : Ide (fun a : Int => P ∣ a) P.toNat := ⟨fun h k => Int.dvd_add h k, fun b h => Int.dvd_mul_of_dvd_right h, by
    show P ∣ ((P.toNat : Nat) : Int)
    rw [Int.toNat_of_nonneg (by omega)]
    exact Int.dvd_refl P⟩
  have hn : PrN P.toNat := ⟨by omega, fun d d2 dp hd => by
    refine hp.no d (by omega) (by omega) ?_
    refine Int.emod_eq_zero_of_dvd ?_
    have := Int.natCast_dvd_natCast.mpr hd
    rwa [Int.toNat_of_nonneg (by omega)] at this⟩
  exact Ide.ferm hI hn c
theorem back_pow {P x : Int} (hp : Prm P) (x0 : 0 ≤ x) (hx : x % P ≠ 0) : powM P x (P - 2).toNat = backN P x := by
  have p3 := hp.lo
  obtain ⟨b0, b1, b2⟩ := back_ok hp hx
  have f := fermat hp x.toNat
  rw [Int.toNat_of_nonneg x0] at f
  have e1 : P.toNat = (P - 2).toNat + 2 := by omega
  rw [e1, Int.pow_add] at f
  obtain ⟨k, hk⟩ := f
  obtain ⟨m, hm⟩ := em_def (backN P x * x) P
  rw [b2] at hm
  unfold powM
  generalize x ^ (P - 2).toNat = y at *
  generalize backN P x = b at *
  have e2 : x ^ 2 = x * x := by rw [Int.pow_succ, Int.pow_succ, Int.pow_zero, Int.one_mul]
  rw [e2] at hk
  -- y = b, up to multiples of P
  have em : ∃ z, y = b + P * z := by
    refine ⟨b * b * k - m * b + 2 * m * y - P * (m * m) * y, ?_⟩
    have h1 : b * x = 1 - P * m := by omega
    have h2 : y * (x * x) = x + P * k := by omega
    -- multiply by b b
    have h3 : b * b * (y * (x * x)) = b * b * (x + P * k) := by rw [h2]
    have h4 : b * b * (y * (x * x)) = y * ((b * x) * (b * x)) := by grind
    have h5 : b * b * (x + P * k) = b * (b * x) + P * (b * b * k) := by grind
    rw [h4, h5, h1] at h3
    grind
  obtain ⟨z, hz⟩ := em
  rw [hz, Int.add_mul_emod_self_left]
  exact Int.emod_eq_of_lt b0 b1
end W

namespace W
open PySem PySem.Spec PyProof.Rows L2 LR
theorem sw_cell {elt : Expr} {gs : List Comprehension} {scope : Scope} {pos py : Pos} {y : Str} {l : Nat} {env : Env} (hy : (env.scope.names.lookup y == some .local) = false) : swapsWith (.ListComp elt gs scope pos) (some (.Name y py)) l env = pure false := by
  unfold swapsWith
  have ky : (env.kindOf y == some .local) = false := hy
  simp only [ky, Bool.and_false, Bool.false_and]
  try rfl
theorem ix0' {d : PyData} {ds : List PyData} : IxD (d :: ds) 0 d := .lit (by
  show atI (d :: ds) ((0 : Nat) : Int) = some d
  exact atI_nat rfl)
section
variable {P : Program} {w : World} {K : PySem.W.Frag} {mg : Str → Option Value} {base : Heap}
inductive rLBack : List PyData → Res → Prop
  | mk {p x : Int} (hp : Prm p) (x0 : 0 ≤ x) (x1 : x < p) (hx : x % p ≠ 0) : rLBack [.int p, .int x] (.ok (.dat (.int (backN p x))))
local macro_rules | `(tactic| wtm_at "nm") => `(tactic| first
  | ((with_reducible show Ev _ _ (.Name "P" _) _); exact nmF (by assumption) 0 (by rfl) rfl (by decide +kernel) (by decide +kernel) (by decide +kernel))
  | ((with_reducible show Ev _ _ (.Name "x" _) _); exact nmF (by assumption) 1 (by rfl) rfl (by decide +kernel) (by decide +kernel) (by decide +kernel))
  | ((with_reducible show Ev _ _ (.Name "found" _) _); exact nmF (by assumption) 2 (by rfl) rfl (by decide +kernel) (by decide +kernel) (by decide +kernel))
  | ((with_reducible show Ev _ _ (.Name "n" _) _); exact nmF (by assumption) 3 (by rfl) rfl (by decide +kernel) (by decide +kernel) (by decide +kernel)))
local macro_rules | `(tactic| wtm_at "own") => `(tactic| first
  | ((with_reducible show EvS _ _ (.Name "P" _) _ _); exact ownF (by assumption) 0 (by rfl) rfl (by decide +kernel) (by decide +kernel) (by decide +kernel))
  | ((with_reducible show EvS _ _ (.Name "x" _) _ _); exact ownF (by assumption) 1 (by rfl) rfl (by decide +kernel) (by decide +kernel) (by decide +kernel))
  | ((with_reducible show EvS _ _ (.Name "found" _) _ _); exact ownF (by assumption) 2 (by rfl) rfl (by decide +kernel) (by decide +kernel) (by decide +kernel))
  | ((with_reducible show EvS _ _ (.Name "n" _) _ _); exact ownF (by assumption) 3 (by rfl) rfl (by decide +kernel) (by decide +kernel) (by decide +kernel)))
local macro_rules | `(tactic| wtm_at "ownl") => `(tactic| first
  | ((with_reducible show EvL _ _ (.Name "P" _) _); exact ownlF (by assumption) 0 (by rfl) rfl (by decide +kernel) (by decide +kernel) (by decide +kernel))
  | ((with_reducible show EvL _ _ (.Name "x" _) _); exact ownlF (by assumption) 1 (by rfl) rfl (by decide +kernel) (by decide +kernel) (by decide +kernel))
  | ((with_reducible show EvL _ _ (.Name "found" _) _); exact ownlF (by assumption) 2 (by rfl) rfl (by decide +kernel) (by decide +kernel) (by decide +kernel))
  | ((with_reducible show EvL _ _ (.Name "n" _) _); exact ownlF (by assumption) 3 (by rfl) rfl (by decide +kernel) (by decide +kernel) (by decide +kernel)))
local macro_rules | `(tactic| wtm_at "set") => `(tactic| first
  | ((with_reducible show S1 _ _ (.Assign [.Name "P" _] _ _) _); refine' setF ?st1 ?st2 0 ?st3 ?st4 ?ste ?st5; (case' st1 => assumption); (case' st2 => assumption); (case' st3 => rfl); (case' st4 => decide +kernel); (case' ste => wtm_at "ev"); (case' st5 => rfl))
  | ((with_reducible show S1 _ _ (.Assign [.Name "x" _] _ _) _); refine' setF ?st1 ?st2 1 ?st3 ?st4 ?ste ?st5; (case' st1 => assumption); (case' st2 => assumption); (case' st3 => rfl); (case' st4 => decide +kernel); (case' ste => wtm_at "ev"); (case' st5 => rfl))
  | ((with_reducible show S1 _ _ (.Assign [.Name "found" _] _ _) _); refine' setF ?st1 ?st2 2 ?st3 ?st4 ?ste ?st5; (case' st1 => assumption); (case' st2 => assumption); (case' st3 => rfl); (case' st4 => decide +kernel); (case' ste => wtm_at "ev"); (case' st5 => rfl))
  | ((with_reducible show S1 _ _ (.Assign [.Name "n" _] _ _) _); refine' setF ?st1 ?st2 3 ?st3 ?st4 ?ste ?st5; (case' st1 => assumption); (case' st2 => assumption); (case' st3 => rfl); (case' st4 => decide +kernel); (case' ste => wtm_at "ev"); (case' st5 => rfl)))
local macro_rules | `(tactic| wtm_at "app") => `(tactic| first
  | ((with_reducible show S1 _ _ (.Expr (.Call (.Attribute (.Name "P" _) _ _) _ _ _) _) _); refine' appF ?ap1 0 ?ap2 ?ap3 ?ap4 ?ape ?aps ?ap5 ?ap6; (case' ap1 => assumption); (case' ap2 => rfl); (case' ap3 => rfl); (case' ap4 => decide +kernel); (case' ape => wtm_at "ev"); (case' aps => try (wtm_at "sz")); (case' ap5 => decide +kernel); (case' ap6 => decide +kernel))
  | ((with_reducible show S1 _ _ (.Expr (.Call (.Attribute (.Name "x" _) _ _) _ _ _) _) _); refine' appF ?ap1 1 ?ap2 ?ap3 ?ap4 ?ape ?aps ?ap5 ?ap6; (case' ap1 => assumption); (case' ap2 => rfl); (case' ap3 => rfl); (case' ap4 => decide +kernel); (case' ape => wtm_at "ev"); (case' aps => try (wtm_at "sz")); (case' ap5 => decide +kernel); (case' ap6 => decide +kernel))
  | ((with_reducible show S1 _ _ (.Expr (.Call (.Attribute (.Name "found" _) _ _) _ _ _) _) _); refine' appF ?ap1 2 ?ap2 ?ap3 ?ap4 ?ape ?aps ?ap5 ?ap6; (case' ap1 => assumption); (case' ap2 => rfl); (case' ap3 => rfl); (case' ap4 => decide +kernel); (case' ape => wtm_at "ev"); (case' aps => try (wtm_at "sz")); (case' ap5 => decide +kernel); (case' ap6 => decide +kernel))
  | ((with_reducible show S1 _ _ (.Expr (.Call (.Attribute (.Name "n" _) _ _) _ _ _) _) _); refine' appF ?ap1 3 ?ap2 ?ap3 ?ap4 ?ape ?aps ?ap5 ?ap6; (case' ap1 => assumption); (case' ap2 => rfl); (case' ap3 => rfl); (case' ap4 => decide +kernel); (case' ape => wtm_at "ev"); (case' aps => try (wtm_at "sz")); (case' ap5 => decide +kernel); (case' ap6 => decide +kernel)))
local macro_rules | `(tactic| wtm_at "put") => `(tactic| first
  | ((with_reducible show S1 _ _ (.Assign [.Subscript (.Name "P" _) _ _] _ _) _); refine' putF ?pu1 0 ?pu2 ?pu3 ?pu4 ?pue ?pui ?pu5 ?pu6 ?pu7 ?pu8; (case' pu1 => assumption); (case' pu2 => rfl); (case' pu3 => rfl); (case' pu4 => decide +kernel); (case' pue => wtm_at "ev"); (case' pui => wtm_at "ev"); (case' pu5 => try (wtm_at "sd")); (case' pu6 => try (wtm_at "sd")); (case' pu7 => decide +kernel); (case' pu8 => decide +kernel))
  | ((with_reducible show S1 _ _ (.Assign [.Subscript (.Name "x" _) _ _] _ _) _); refine' putF ?pu1 1 ?pu2 ?pu3 ?pu4 ?pue ?pui ?pu5 ?pu6 ?pu7 ?pu8; (case' pu1 => assumption); (case' pu2 => rfl); (case' pu3 => rfl); (case' pu4 => decide +kernel); (case' pue => wtm_at "ev"); (case' pui => wtm_at "ev"); (case' pu5 => try (wtm_at "sd")); (case' pu6 => try (wtm_at "sd")); (case' pu7 => decide +kernel); (case' pu8 => decide +kernel))
  | ((with_reducible show S1 _ _ (.Assign [.Subscript (.Name "found" _) _ _] _ _) _); refine' putF ?pu1 2 ?pu2 ?pu3 ?pu4 ?pue ?pui ?pu5 ?pu6 ?pu7 ?pu8; (case' pu1 => assumption); (case' pu2 => rfl); (case' pu3 => rfl); (case' pu4 => decide +kernel); (case' pue => wtm_at "ev"); (case' pui => wtm_at "ev"); (case' pu5 => try (wtm_at "sd")); (case' pu6 => try (wtm_at "sd")); (case' pu7 => decide +kernel); (case' pu8 => decide +kernel))
  | ((with_reducible show S1 _ _ (.Assign [.Subscript (.Name "n" _) _ _] _ _) _); refine' putF ?pu1 3 ?pu2 ?pu3 ?pu4 ?pue ?pui ?pu5 ?pu6 ?pu7 ?pu8; (case' pu1 => assumption); (case' pu2 => rfl); (case' pu3 => rfl); (case' pu4 => decide +kernel); (case' pue => wtm_at "ev"); (case' pui => wtm_at "ev"); (case' pu5 => try (wtm_at "sd")); (case' pu6 => try (wtm_at "sd")); (case' pu7 => decide +kernel); (case' pu8 => decide +kernel)))
local macro_rules | `(tactic| wtm_at "reto") => `(tactic| first
  | ((with_reducible show S1 _ _ (.Return (some (.Name "P" _)) _) _); exact retOF (by assumption) 0 (by rfl) rfl (by decide +kernel) (by decide +kernel) (by decide +kernel))
  | ((with_reducible show S1 _ _ (.Return (some (.Name "x" _)) _) _); exact retOF (by assumption) 1 (by rfl) rfl (by decide +kernel) (by decide +kernel) (by decide +kernel))
  | ((with_reducible show S1 _ _ (.Return (some (.Name "found" _)) _) _); exact retOF (by assumption) 2 (by rfl) rfl (by decide +kernel) (by decide +kernel) (by decide +kernel))
  | ((with_reducible show S1 _ _ (.Return (some (.Name "n" _)) _) _); exact retOF (by assumption) 3 (by rfl) rfl (by decide +kernel) (by decide +kernel) (by decide +kernel)))
local macro_rules | `(tactic| wtm_at "tgt") => `(tactic| first
  | ((with_reducible show PG _ (.Name "P" _) _); exact tgF (by assumption) (by assumption) 0 (by rfl) (by decide +kernel))
  | ((with_reducible show PG _ (.Name "x" _) _); exact tgF (by assumption) (by assumption) 1 (by rfl) (by decide +kernel))
  | ((with_reducible show PG _ (.Name "found" _) _); exact tgF (by assumption) (by assumption) 2 (by rfl) (by decide +kernel))
  | ((with_reducible show PG _ (.Name "n" _) _); exact tgF (by assumption) (by assumption) 3 (by rfl) (by decide +kernel)))
theorem ok_lback {f : Addr} {fd : FuncData} (F : Fun K "_law_back" "_law_back" s__law_back f fd) (hm : mg "_law_back" = some (.ref f)) (b : Binds K fd ["P", "x"] []) : Fn P w K mg base 1 "_law_back" ["P", "x"] rLBack := by
  refine fnF F hm b sc__law_back (fun ds r h => by cases h; rfl) fun X hX hT ds r h => ?_
  cases h with
  | @mk p x hp x0 x1 hx =>
    have p3 := hp.lo
    have p9 := hp.hi
    have p0 : 0 < p := by omega
    obtain ⟨k, k9, k1, k2, k3⟩ := bk_stop p3 p9
    have eq := bkGo_eq p3 x0 x1
    have pb : ∀ e, 0 ≤ powM p x e ∧ powM p x e < p := fun e => ⟨Int.emod_nonneg _ (by omega), Int.emod_lt_of_pos _ p0⟩
    refine' sm_cons ?s1 ?_
    case' s1 => wtm_at "st"
    refine' sm_cons ?s2 ?_
    case' s2 => wtm_at "st"
    refine' sm_cons ?s3 ?_
    case' s3 =>
      refine' whileV hX (fun i => [.dat (.int p), .dat (.int (bkGo p x i).2.1), .dat (.int (bkGo p x i).1), .dat (.int (bkGo p x i).2.2)]) k (fun i => decide ((0 : Int) < (bkGo p x i).2.2)) ?l3 (fun i _ => ?t3) (fun i hi => ?v3) ?w3 fun i hi => ?b3
      case' l3 => wtm_at "le"
      case' t3 => wtm_at "test"
      case v3 => rw [eq i]; exact k1 i hi
      case w3 => rw [eq k]; exact k2
      have q1 := eq i
      have q2 : bkGo p x (i + 1) = (if (bkGo p x i).2.2 % 2 = 1 then (bkGo p x i).1 * (bkGo p x i).2.1 % p else (bkGo p x i).1, (bkGo p x i).2.1 * (bkGo p x i).2.1 % p, (bkGo p x i).2.2 / 2) := rfl
      have b1 : 0 ≤ (bkGo p x i).1 ∧ (bkGo p x i).1 < p := by rw [q1]; exact pb _
      have b2 : 0 ≤ (bkGo p x i).2.1 ∧ (bkGo p x i).2.1 < p := by rw [q1]; exact pb _
      rw [q2]
      generalize bkGo p x i = st at *
      obtain ⟨fo, xx, nn⟩ := st
      simp only at b1 b2 ⊢
      have c1 : CMul fo xx := .inl (by omega)
      have c2 : CMul xx xx := .inl (by omega)
      refine' sm_cons (A1 := [.dat (.int p), .dat (.int xx), .dat (.int (if nn % 2 = 1 then fo * xx % p else fo)), .dat (.int nn)]) ?s4 ?_
      case' s4 =>
        refine' s1_if ?c4 (fun h4 => ?t4) fun h4 => ?f4
        case' c4 => wtm_at "test"
        case' t4 =>
          rw [if_pos (of_decide_eq_true h4)]
          refine' sm_le (sm_one ?s5) ?l5
          case' s5 => wtm_at "st"
          case' l5 => exact LeA.refl
        case' f4 =>
          rw [if_neg (of_decide_eq_false h4)]
          refine' sm_le sm_nil ?l6
          case' l6 => exact LeA.refl
      refine' sm_cons ?s7 ?_
      case' s7 => wtm_at "st"
      refine' sm_le (sm_one ?s8) ?l8
      case' s8 => wtm_at "st"
      case' l8 => exact LeA.refl
    have e : (bkGo p x k).1 = backN p x := by
      rw [eq k]
      show powM p x ((p - 2).toNat % 2 ^ k) = _
      rw [Nat.mod_eq_of_lt k3]
      exact back_pow hp x0 hx
    rw [e]
    refine' sm_end ?s9
    case' s9 => wtm_at "st"
inductive rCleared : List PyData → Res → Prop
  | mk {p : Int} {wd a : Nat} {row first : List Int} (p0 : 0 < p) (p9 : p ≤ 9999) (hr : RowOn p wd row) (hf : RowOn p wd first) (ha : a < wd) (hw : wd ≤ 100) : rCleared [.int p, tI row, tI first, .int a] (.ok (.dat (tI (clearV p first a row))))
local macro_rules | `(tactic| wtm_at "nm") => `(tactic| first
  | ((with_reducible show Ev _ _ (.Name "P" _) _); exact nmF (by assumption) 0 (by rfl) rfl (by decide +kernel) (by decide +kernel) (by decide +kernel))
  | ((with_reducible show Ev _ _ (.Name "row" _) _); exact nmF (by assumption) 1 (by rfl) rfl (by decide +kernel) (by decide +kernel) (by decide +kernel))
  | ((with_reducible show Ev _ _ (.Name "first" _) _); exact nmF (by assumption) 2 (by rfl) rfl (by decide +kernel) (by decide +kernel) (by decide +kernel))
  | ((with_reducible show Ev _ _ (.Name "at" _) _); exact nmF (by assumption) 3 (by rfl) rfl (by decide +kernel) (by decide +kernel) (by decide +kernel))
  | ((with_reducible show Ev _ _ (.Name "x" _) _); exact nmF (by assumption) 4 (by rfl) rfl (by decide +kernel) (by decide +kernel) (by decide +kernel))
  | ((with_reducible show Ev _ _ (.Name "y" _) _); exact nmF (by assumption) 5 (by rfl) rfl (by decide +kernel) (by decide +kernel) (by decide +kernel)))
local macro_rules | `(tactic| wtm_at "own") => `(tactic| first
  | ((with_reducible show EvS _ _ (.Name "P" _) _ _); exact ownF (by assumption) 0 (by rfl) rfl (by decide +kernel) (by decide +kernel) (by decide +kernel))
  | ((with_reducible show EvS _ _ (.Name "row" _) _ _); exact ownF (by assumption) 1 (by rfl) rfl (by decide +kernel) (by decide +kernel) (by decide +kernel))
  | ((with_reducible show EvS _ _ (.Name "first" _) _ _); exact ownF (by assumption) 2 (by rfl) rfl (by decide +kernel) (by decide +kernel) (by decide +kernel))
  | ((with_reducible show EvS _ _ (.Name "at" _) _ _); exact ownF (by assumption) 3 (by rfl) rfl (by decide +kernel) (by decide +kernel) (by decide +kernel))
  | ((with_reducible show EvS _ _ (.Name "x" _) _ _); exact ownF (by assumption) 4 (by rfl) rfl (by decide +kernel) (by decide +kernel) (by decide +kernel))
  | ((with_reducible show EvS _ _ (.Name "y" _) _ _); exact ownF (by assumption) 5 (by rfl) rfl (by decide +kernel) (by decide +kernel) (by decide +kernel)))
local macro_rules | `(tactic| wtm_at "ownl") => `(tactic| first
  | ((with_reducible show EvL _ _ (.Name "P" _) _); exact ownlF (by assumption) 0 (by rfl) rfl (by decide +kernel) (by decide +kernel) (by decide +kernel))
  | ((with_reducible show EvL _ _ (.Name "row" _) _); exact ownlF (by assumption) 1 (by rfl) rfl (by decide +kernel) (by decide +kernel) (by decide +kernel))
  | ((with_reducible show EvL _ _ (.Name "first" _) _); exact ownlF (by assumption) 2 (by rfl) rfl (by decide +kernel) (by decide +kernel) (by decide +kernel))
  | ((with_reducible show EvL _ _ (.Name "at" _) _); exact ownlF (by assumption) 3 (by rfl) rfl (by decide +kernel) (by decide +kernel) (by decide +kernel))
  | ((with_reducible show EvL _ _ (.Name "x" _) _); exact ownlF (by assumption) 4 (by rfl) rfl (by decide +kernel) (by decide +kernel) (by decide +kernel))
  | ((with_reducible show EvL _ _ (.Name "y" _) _); exact ownlF (by assumption) 5 (by rfl) rfl (by decide +kernel) (by decide +kernel) (by decide +kernel)))
local macro_rules | `(tactic| wtm_at "set") => `(tactic| first
  | ((with_reducible show S1 _ _ (.Assign [.Name "P" _] _ _) _); refine' setF ?st1 ?st2 0 ?st3 ?st4 ?ste ?st5; (case' st1 => assumption); (case' st2 => assumption); (case' st3 => rfl); (case' st4 => decide +kernel); (case' ste => wtm_at "ev"); (case' st5 => rfl))
  | ((with_reducible show S1 _ _ (.Assign [.Name "row" _] _ _) _); refine' setF ?st1 ?st2 1 ?st3 ?st4 ?ste ?st5; (case' st1 => assumption); (case' st2 => assumption); (case' st3 => rfl); (case' st4 => decide +kernel); (case' ste => wtm_at "ev"); (case' st5 => rfl))
  | ((with_reducible show S1 _ _ (.Assign [.Name "first" _] _ _) _); refine' setF ?st1 ?st2 2 ?st3 ?st4 ?ste ?st5; (case' st1 => assumption); (case' st2 => assumption); (case' st3 => rfl); (case' st4 => decide +kernel); (case' ste => wtm_at "ev"); (case' st5 => rfl))
  | ((with_reducible show S1 _ _ (.Assign [.Name "at" _] _ _) _); refine' setF ?st1 ?st2 3 ?st3 ?st4 ?ste ?st5; (case' st1 => assumption); (case' st2 => assumption); (case' st3 => rfl); (case' st4 => decide +kernel); (case' ste => wtm_at "ev"); (case' st5 => rfl)))
local macro_rules | `(tactic| wtm_at "app") => `(tactic| first
  | ((with_reducible show S1 _ _ (.Expr (.Call (.Attribute (.Name "P" _) _ _) _ _ _) _) _); refine' appF ?ap1 0 ?ap2 ?ap3 ?ap4 ?ape ?aps ?ap5 ?ap6; (case' ap1 => assumption); (case' ap2 => rfl); (case' ap3 => rfl); (case' ap4 => decide +kernel); (case' ape => wtm_at "ev"); (case' aps => try (wtm_at "sz")); (case' ap5 => decide +kernel); (case' ap6 => decide +kernel))
  | ((with_reducible show S1 _ _ (.Expr (.Call (.Attribute (.Name "row" _) _ _) _ _ _) _) _); refine' appF ?ap1 1 ?ap2 ?ap3 ?ap4 ?ape ?aps ?ap5 ?ap6; (case' ap1 => assumption); (case' ap2 => rfl); (case' ap3 => rfl); (case' ap4 => decide +kernel); (case' ape => wtm_at "ev"); (case' aps => try (wtm_at "sz")); (case' ap5 => decide +kernel); (case' ap6 => decide +kernel))
  | ((with_reducible show S1 _ _ (.Expr (.Call (.Attribute (.Name "first" _) _ _) _ _ _) _) _); refine' appF ?ap1 2 ?ap2 ?ap3 ?ap4 ?ape ?aps ?ap5 ?ap6; (case' ap1 => assumption); (case' ap2 => rfl); (case' ap3 => rfl); (case' ap4 => decide +kernel); (case' ape => wtm_at "ev"); (case' aps => try (wtm_at "sz")); (case' ap5 => decide +kernel); (case' ap6 => decide +kernel))
  | ((with_reducible show S1 _ _ (.Expr (.Call (.Attribute (.Name "at" _) _ _) _ _ _) _) _); refine' appF ?ap1 3 ?ap2 ?ap3 ?ap4 ?ape ?aps ?ap5 ?ap6; (case' ap1 => assumption); (case' ap2 => rfl); (case' ap3 => rfl); (case' ap4 => decide +kernel); (case' ape => wtm_at "ev"); (case' aps => try (wtm_at "sz")); (case' ap5 => decide +kernel); (case' ap6 => decide +kernel)))
local macro_rules | `(tactic| wtm_at "put") => `(tactic| first
  | ((with_reducible show S1 _ _ (.Assign [.Subscript (.Name "P" _) _ _] _ _) _); refine' putF ?pu1 0 ?pu2 ?pu3 ?pu4 ?pue ?pui ?pu5 ?pu6 ?pu7 ?pu8; (case' pu1 => assumption); (case' pu2 => rfl); (case' pu3 => rfl); (case' pu4 => decide +kernel); (case' pue => wtm_at "ev"); (case' pui => wtm_at "ev"); (case' pu5 => try (wtm_at "sd")); (case' pu6 => try (wtm_at "sd")); (case' pu7 => decide +kernel); (case' pu8 => decide +kernel))
  | ((with_reducible show S1 _ _ (.Assign [.Subscript (.Name "row" _) _ _] _ _) _); refine' putF ?pu1 1 ?pu2 ?pu3 ?pu4 ?pue ?pui ?pu5 ?pu6 ?pu7 ?pu8; (case' pu1 => assumption); (case' pu2 => rfl); (case' pu3 => rfl); (case' pu4 => decide +kernel); (case' pue => wtm_at "ev"); (case' pui => wtm_at "ev"); (case' pu5 => try (wtm_at "sd")); (case' pu6 => try (wtm_at "sd")); (case' pu7 => decide +kernel); (case' pu8 => decide +kernel))
  | ((with_reducible show S1 _ _ (.Assign [.Subscript (.Name "first" _) _ _] _ _) _); refine' putF ?pu1 2 ?pu2 ?pu3 ?pu4 ?pue ?pui ?pu5 ?pu6 ?pu7 ?pu8; (case' pu1 => assumption); (case' pu2 => rfl); (case' pu3 => rfl); (case' pu4 => decide +kernel); (case' pue => wtm_at "ev"); (case' pui => wtm_at "ev"); (case' pu5 => try (wtm_at "sd")); (case' pu6 => try (wtm_at "sd")); (case' pu7 => decide +kernel); (case' pu8 => decide +kernel))
  | ((with_reducible show S1 _ _ (.Assign [.Subscript (.Name "at" _) _ _] _ _) _); refine' putF ?pu1 3 ?pu2 ?pu3 ?pu4 ?pue ?pui ?pu5 ?pu6 ?pu7 ?pu8; (case' pu1 => assumption); (case' pu2 => rfl); (case' pu3 => rfl); (case' pu4 => decide +kernel); (case' pue => wtm_at "ev"); (case' pui => wtm_at "ev"); (case' pu5 => try (wtm_at "sd")); (case' pu6 => try (wtm_at "sd")); (case' pu7 => decide +kernel); (case' pu8 => decide +kernel)))
local macro_rules | `(tactic| wtm_at "reto") => `(tactic| first
  | ((with_reducible show S1 _ _ (.Return (some (.Name "P" _)) _) _); exact retOF (by assumption) 0 (by rfl) rfl (by decide +kernel) (by decide +kernel) (by decide +kernel))
  | ((with_reducible show S1 _ _ (.Return (some (.Name "row" _)) _) _); exact retOF (by assumption) 1 (by rfl) rfl (by decide +kernel) (by decide +kernel) (by decide +kernel))
  | ((with_reducible show S1 _ _ (.Return (some (.Name "first" _)) _) _); exact retOF (by assumption) 2 (by rfl) rfl (by decide +kernel) (by decide +kernel) (by decide +kernel))
  | ((with_reducible show S1 _ _ (.Return (some (.Name "at" _)) _) _); exact retOF (by assumption) 3 (by rfl) rfl (by decide +kernel) (by decide +kernel) (by decide +kernel)))
local macro_rules | `(tactic| wtm_at "tgt") => `(tactic| first
  | ((with_reducible show PG _ (.Name "P" _) _); exact tgF (by assumption) (by assumption) 0 (by rfl) (by decide +kernel))
  | ((with_reducible show PG _ (.Name "row" _) _); exact tgF (by assumption) (by assumption) 1 (by rfl) (by decide +kernel))
  | ((with_reducible show PG _ (.Name "first" _) _); exact tgF (by assumption) (by assumption) 2 (by rfl) (by decide +kernel))
  | ((with_reducible show PG _ (.Name "at" _) _); exact tgF (by assumption) (by assumption) 3 (by rfl) (by decide +kernel)))
theorem ok_cleared {f : Addr} {fd : FuncData} (F : Fun K "_law_cleared" "_law_cleared" s__law_cleared f fd) (hm : mg "_law_cleared" = some (.ref f)) (b : Binds K fd ["P", "row", "first", "at"] []) (mz : mg "zip" = none) (mt : mg "tuple" = none) : Fn P w K mg base 1 "_law_cleared" ["P", "row", "first", "at"] rCleared := by
  refine fnF F hm b sc__law_cleared (fun ds r h => by cases h; rfl) fun X hX hT ds r h => ?_
  cases h with
  | @mk p wd a row first p0 p9 hr hf ha hw =>
    have lr := hr.1
    have lf := hf.1
    have al : a < row.length := by omega
    have r1 := on_get hr.2 al
    have ea : ((a : Int)).toNat = a := Int.toNat_natCast a
    refine' sm_end (s1_retE (tupleF hX (ds := (clearV p first a row).map .int) ?e1 mt (evs_new (ev_eq (lcZ hX 4 5 (row.zip first) (fun z => .int z.1) (fun z => .int z.2) (fun z => .int ((z.1 - row.getD a 0 * z.2) % p)) ?i1 rfl ?ok1 ?n1 ?n2 ?x1 ?x2 ?ij ?z1 ?j1 ?j2 fun Y hY z hz => ?y1) ?w1))) rfl)
    case' e1 => decide +kernel
    case' i1 =>
      refine' zipBF hX false false (enc1 := PyData.int) (enc2 := PyData.int) (xs := row) (ys := first) ?v1 mz ?v2 ?v3
      case' v1 => decide +kernel
      case' v2 => wtm_at "ev"
      case' v3 => wtm_at "ev"
    case' ok1 => decide +kernel
    case' n1 => rfl
    case' n2 => rfl
    case' x1 => decide +kernel
    case' x2 => decide +kernel
    case' ij => decide
    case z1 => rw [List.length_zip, sizeLine_eq]; omega
    case' j1 => rfl
    case' j2 => rfl
    case w1 =>
      unfold clearV lessV
      rw [List.map_map]
      rfl
    case' y1 =>
      have hz2 := (List.of_mem_zip (show (z.1, z.2) ∈ row.zip first from hz))
      have y0 := hf.2 _ hz2.2
      have cm : CMul (row.getD a 0) z.2 := .inl (by omega)
      refine' ev_bin (ev_bin ?k1 (ev_bin (d1 := .int (row.getD a 0)) (ev_eq ?k2 ?k3) ?k4 (BinD.mul cm)) BinD.sub) ?k5 (BinD.mod p0)
      case' k1 => wtm_at "ev"
      case' k2 => exact ev_atD (evs_dat (by wtm_at "ev") SeqD.tup) (by wtm_at "ev") (IxD.nI (xs := row) (i := (a : Int)) (by omega) (by omega)) (fun _ _ => rfl)
      case k3 => rw [ea]
      case' k4 => wtm_at "ev"
      case' k5 => wtm_at "ev"
theorem range_filter_lt {n : Nat} {p : Nat → Bool} : ∀ x ∈ (List.range n).filter p, x < n := fun x hx => List.mem_range.mp (List.mem_filter.mp hx).1
inductive rReduced : List PyData → Res → Prop
  | mk {p : Int} {wd : Nat} {rows : List (List Int)} (hp : Prm p) (hr : RowsOn p wd rows) (h1 : 1 ≤ rows.length) (h9 : rows.length ≤ 100) (hw : wd ≤ 100) : rReduced [.int p, lT rows] (.ok (.own (.lst ((stepsForm p rows).map tI))))
theorem rCleared_of {p : Int} {wd a : Nat} {row first : List Int} (hr : RowOn p wd row) (hf : RowOn p wd first) (p0 : 0 < p) (p9 : p ≤ 9999) (ha : a < wd) (hw : wd ≤ 100) : rCleared [.int p, tI row, tI first, .int a] (.ok (.dat (tI (clearV p first a row)))) := .mk p0 p9 hr hf ha hw
local macro_rules | `(tactic| wtm_at "R") => `(tactic| first
  | ((with_reducible apply rCleared_of) <;> first | (with_reducible assumption) | omega)
  | (constructor; all_goals try (wtm_at "sd")))
local macro_rules | `(tactic| wtm_at "nm") => `(tactic| first
  | ((with_reducible show Ev _ _ (.Name "P" _) _); exact nmF (by assumption) 0 (by rfl) rfl (by decide +kernel) (by decide +kernel) (by decide +kernel))
  | ((with_reducible show Ev _ _ (.Name "rows" _) _); exact nmF (by assumption) 1 (by rfl) rfl (by decide +kernel) (by decide +kernel) (by decide +kernel))
  | ((with_reducible show Ev _ _ (.Name "left" _) _); exact nmF (by assumption) 2 (by rfl) rfl (by decide +kernel) (by decide +kernel) (by decide +kernel))
  | ((with_reducible show Ev _ _ (.Name "ready" _) _); exact nmF (by assumption) 3 (by rfl) rfl (by decide +kernel) (by decide +kernel) (by decide +kernel))
  | ((with_reducible show Ev _ _ (.Name "at" _) _); exact nmF (by assumption) 4 (by rfl) rfl (by decide +kernel) (by decide +kernel) (by decide +kernel))
  | ((with_reducible show Ev _ _ (.Name "some" _) _); exact nmF (by assumption) 5 (by rfl) rfl (by decide +kernel) (by decide +kernel) (by decide +kernel))
  | ((with_reducible show Ev _ _ (.Name "first" _) _); exact nmF (by assumption) 6 (by rfl) rfl (by decide +kernel) (by decide +kernel) (by decide +kernel))
  | ((with_reducible show Ev _ _ (.Name "c" _) _); exact nmF (by assumption) 7 (by rfl) rfl (by decide +kernel) (by decide +kernel) (by decide +kernel))
  | ((with_reducible show Ev _ _ (.Name "k" _) _); exact nmF (by assumption) 8 (by rfl) rfl (by decide +kernel) (by decide +kernel) (by decide +kernel))
  | ((with_reducible show Ev _ _ (.Name "x" _) _); exact nmF (by assumption) 9 (by rfl) rfl (by decide +kernel) (by decide +kernel) (by decide +kernel))
  | ((with_reducible show Ev _ _ (.Name "row" _) _); exact nmF (by assumption) 10 (by rfl) rfl (by decide +kernel) (by decide +kernel) (by decide +kernel)))
local macro_rules | `(tactic| wtm_at "own") => `(tactic| first
  | ((with_reducible show EvS _ _ (.Name "P" _) _ _); exact ownF (by assumption) 0 (by rfl) rfl (by decide +kernel) (by decide +kernel) (by decide +kernel))
  | ((with_reducible show EvS _ _ (.Name "rows" _) _ _); exact ownF (by assumption) 1 (by rfl) rfl (by decide +kernel) (by decide +kernel) (by decide +kernel))
  | ((with_reducible show EvS _ _ (.Name "left" _) _ _); exact ownF (by assumption) 2 (by rfl) rfl (by decide +kernel) (by decide +kernel) (by decide +kernel))
  | ((with_reducible show EvS _ _ (.Name "ready" _) _ _); exact ownF (by assumption) 3 (by rfl) rfl (by decide +kernel) (by decide +kernel) (by decide +kernel))
  | ((with_reducible show EvS _ _ (.Name "at" _) _ _); exact ownF (by assumption) 4 (by rfl) rfl (by decide +kernel) (by decide +kernel) (by decide +kernel))
  | ((with_reducible show EvS _ _ (.Name "some" _) _ _); exact ownF (by assumption) 5 (by rfl) rfl (by decide +kernel) (by decide +kernel) (by decide +kernel))
  | ((with_reducible show EvS _ _ (.Name "first" _) _ _); exact ownF (by assumption) 6 (by rfl) rfl (by decide +kernel) (by decide +kernel) (by decide +kernel))
  | ((with_reducible show EvS _ _ (.Name "c" _) _ _); exact ownF (by assumption) 7 (by rfl) rfl (by decide +kernel) (by decide +kernel) (by decide +kernel))
  | ((with_reducible show EvS _ _ (.Name "k" _) _ _); exact ownF (by assumption) 8 (by rfl) rfl (by decide +kernel) (by decide +kernel) (by decide +kernel))
  | ((with_reducible show EvS _ _ (.Name "x" _) _ _); exact ownF (by assumption) 9 (by rfl) rfl (by decide +kernel) (by decide +kernel) (by decide +kernel))
  | ((with_reducible show EvS _ _ (.Name "row" _) _ _); exact ownF (by assumption) 10 (by rfl) rfl (by decide +kernel) (by decide +kernel) (by decide +kernel)))
local macro_rules | `(tactic| wtm_at "ownl") => `(tactic| first
  | ((with_reducible show EvL _ _ (.Name "P" _) _); exact ownlF (by assumption) 0 (by rfl) rfl (by decide +kernel) (by decide +kernel) (by decide +kernel))
  | ((with_reducible show EvL _ _ (.Name "rows" _) _); exact ownlF (by assumption) 1 (by rfl) rfl (by decide +kernel) (by decide +kernel) (by decide +kernel))
  | ((with_reducible show EvL _ _ (.Name "left" _) _); exact ownlF (by assumption) 2 (by rfl) rfl (by decide +kernel) (by decide +kernel) (by decide +kernel))
  | ((with_reducible show EvL _ _ (.Name "ready" _) _); exact ownlF (by assumption) 3 (by rfl) rfl (by decide +kernel) (by decide +kernel) (by decide +kernel))
  | ((with_reducible show EvL _ _ (.Name "at" _) _); exact ownlF (by assumption) 4 (by rfl) rfl (by decide +kernel) (by decide +kernel) (by decide +kernel))
  | ((with_reducible show EvL _ _ (.Name "some" _) _); exact ownlF (by assumption) 5 (by rfl) rfl (by decide +kernel) (by decide +kernel) (by decide +kernel))
  | ((with_reducible show EvL _ _ (.Name "first" _) _); exact ownlF (by assumption) 6 (by rfl) rfl (by decide +kernel) (by decide +kernel) (by decide +kernel))
  | ((with_reducible show EvL _ _ (.Name "c" _) _); exact ownlF (by assumption) 7 (by rfl) rfl (by decide +kernel) (by decide +kernel) (by decide +kernel))
  | ((with_reducible show EvL _ _ (.Name "k" _) _); exact ownlF (by assumption) 8 (by rfl) rfl (by decide +kernel) (by decide +kernel) (by decide +kernel))
  | ((with_reducible show EvL _ _ (.Name "x" _) _); exact ownlF (by assumption) 9 (by rfl) rfl (by decide +kernel) (by decide +kernel) (by decide +kernel))
  | ((with_reducible show EvL _ _ (.Name "row" _) _); exact ownlF (by assumption) 10 (by rfl) rfl (by decide +kernel) (by decide +kernel) (by decide +kernel)))
local macro_rules | `(tactic| wtm_at "set") => `(tactic| first
  | ((with_reducible show S1 _ _ (.Assign [.Name "P" _] _ _) _); refine' setF ?st1 ?st2 0 ?st3 ?st4 ?ste ?st5; (case' st1 => assumption); (case' st2 => assumption); (case' st3 => rfl); (case' st4 => decide +kernel); (case' ste => wtm_at "ev"); (case' st5 => rfl))
  | ((with_reducible show S1 _ _ (.Assign [.Name "rows" _] _ _) _); refine' setF ?st1 ?st2 1 ?st3 ?st4 ?ste ?st5; (case' st1 => assumption); (case' st2 => assumption); (case' st3 => rfl); (case' st4 => decide +kernel); (case' ste => wtm_at "ev"); (case' st5 => rfl))
  | ((with_reducible show S1 _ _ (.Assign [.Name "left" _] _ _) _); refine' setF ?st1 ?st2 2 ?st3 ?st4 ?ste ?st5; (case' st1 => assumption); (case' st2 => assumption); (case' st3 => rfl); (case' st4 => decide +kernel); (case' ste => wtm_at "ev"); (case' st5 => rfl))
  | ((with_reducible show S1 _ _ (.Assign [.Name "ready" _] _ _) _); refine' setF ?st1 ?st2 3 ?st3 ?st4 ?ste ?st5; (case' st1 => assumption); (case' st2 => assumption); (case' st3 => rfl); (case' st4 => decide +kernel); (case' ste => wtm_at "ev"); (case' st5 => rfl))
  | ((with_reducible show S1 _ _ (.Assign [.Name "at" _] _ _) _); refine' setF ?st1 ?st2 4 ?st3 ?st4 ?ste ?st5; (case' st1 => assumption); (case' st2 => assumption); (case' st3 => rfl); (case' st4 => decide +kernel); (case' ste => wtm_at "ev"); (case' st5 => rfl))
  | ((with_reducible show S1 _ _ (.Assign [.Name "some" _] _ _) _); refine' setF ?st1 ?st2 5 ?st3 ?st4 ?ste ?st5; (case' st1 => assumption); (case' st2 => assumption); (case' st3 => rfl); (case' st4 => decide +kernel); (case' ste => wtm_at "ev"); (case' st5 => rfl))
  | ((with_reducible show S1 _ _ (.Assign [.Name "first" _] _ _) _); refine' setF ?st1 ?st2 6 ?st3 ?st4 ?ste ?st5; (case' st1 => assumption); (case' st2 => assumption); (case' st3 => rfl); (case' st4 => decide +kernel); (case' ste => wtm_at "ev"); (case' st5 => rfl))
  | ((with_reducible show S1 _ _ (.Assign [.Name "c" _] _ _) _); refine' setF ?st1 ?st2 7 ?st3 ?st4 ?ste ?st5; (case' st1 => assumption); (case' st2 => assumption); (case' st3 => rfl); (case' st4 => decide +kernel); (case' ste => wtm_at "ev"); (case' st5 => rfl)))
local macro_rules | `(tactic| wtm_at "app") => `(tactic| first
  | ((with_reducible show S1 _ _ (.Expr (.Call (.Attribute (.Name "P" _) _ _) _ _ _) _) _); refine' appF ?ap1 0 ?ap2 ?ap3 ?ap4 ?ape ?aps ?ap5 ?ap6; (case' ap1 => assumption); (case' ap2 => rfl); (case' ap3 => rfl); (case' ap4 => decide +kernel); (case' ape => wtm_at "ev"); (case' aps => try (wtm_at "sz")); (case' ap5 => decide +kernel); (case' ap6 => decide +kernel))
  | ((with_reducible show S1 _ _ (.Expr (.Call (.Attribute (.Name "rows" _) _ _) _ _ _) _) _); refine' appF ?ap1 1 ?ap2 ?ap3 ?ap4 ?ape ?aps ?ap5 ?ap6; (case' ap1 => assumption); (case' ap2 => rfl); (case' ap3 => rfl); (case' ap4 => decide +kernel); (case' ape => wtm_at "ev"); (case' aps => try (wtm_at "sz")); (case' ap5 => decide +kernel); (case' ap6 => decide +kernel))
  | ((with_reducible show S1 _ _ (.Expr (.Call (.Attribute (.Name "left" _) _ _) _ _ _) _) _); refine' appF ?ap1 2 ?ap2 ?ap3 ?ap4 ?ape ?aps ?ap5 ?ap6; (case' ap1 => assumption); (case' ap2 => rfl); (case' ap3 => rfl); (case' ap4 => decide +kernel); (case' ape => wtm_at "ev"); (case' aps => try (wtm_at "sz")); (case' ap5 => decide +kernel); (case' ap6 => decide +kernel))
  | ((with_reducible show S1 _ _ (.Expr (.Call (.Attribute (.Name "ready" _) _ _) _ _ _) _) _); refine' appF ?ap1 3 ?ap2 ?ap3 ?ap4 ?ape ?aps ?ap5 ?ap6; (case' ap1 => assumption); (case' ap2 => rfl); (case' ap3 => rfl); (case' ap4 => decide +kernel); (case' ape => wtm_at "ev"); (case' aps => try (wtm_at "sz")); (case' ap5 => decide +kernel); (case' ap6 => decide +kernel))
  | ((with_reducible show S1 _ _ (.Expr (.Call (.Attribute (.Name "at" _) _ _) _ _ _) _) _); refine' appF ?ap1 4 ?ap2 ?ap3 ?ap4 ?ape ?aps ?ap5 ?ap6; (case' ap1 => assumption); (case' ap2 => rfl); (case' ap3 => rfl); (case' ap4 => decide +kernel); (case' ape => wtm_at "ev"); (case' aps => try (wtm_at "sz")); (case' ap5 => decide +kernel); (case' ap6 => decide +kernel))
  | ((with_reducible show S1 _ _ (.Expr (.Call (.Attribute (.Name "some" _) _ _) _ _ _) _) _); refine' appF ?ap1 5 ?ap2 ?ap3 ?ap4 ?ape ?aps ?ap5 ?ap6; (case' ap1 => assumption); (case' ap2 => rfl); (case' ap3 => rfl); (case' ap4 => decide +kernel); (case' ape => wtm_at "ev"); (case' aps => try (wtm_at "sz")); (case' ap5 => decide +kernel); (case' ap6 => decide +kernel))
  | ((with_reducible show S1 _ _ (.Expr (.Call (.Attribute (.Name "first" _) _ _) _ _ _) _) _); refine' appF ?ap1 6 ?ap2 ?ap3 ?ap4 ?ape ?aps ?ap5 ?ap6; (case' ap1 => assumption); (case' ap2 => rfl); (case' ap3 => rfl); (case' ap4 => decide +kernel); (case' ape => wtm_at "ev"); (case' aps => try (wtm_at "sz")); (case' ap5 => decide +kernel); (case' ap6 => decide +kernel))
  | ((with_reducible show S1 _ _ (.Expr (.Call (.Attribute (.Name "c" _) _ _) _ _ _) _) _); refine' appF ?ap1 7 ?ap2 ?ap3 ?ap4 ?ape ?aps ?ap5 ?ap6; (case' ap1 => assumption); (case' ap2 => rfl); (case' ap3 => rfl); (case' ap4 => decide +kernel); (case' ape => wtm_at "ev"); (case' aps => try (wtm_at "sz")); (case' ap5 => decide +kernel); (case' ap6 => decide +kernel)))
local macro_rules | `(tactic| wtm_at "put") => `(tactic| first
  | ((with_reducible show S1 _ _ (.Assign [.Subscript (.Name "P" _) _ _] _ _) _); refine' putF ?pu1 0 ?pu2 ?pu3 ?pu4 ?pue ?pui ?pu5 ?pu6 ?pu7 ?pu8; (case' pu1 => assumption); (case' pu2 => rfl); (case' pu3 => rfl); (case' pu4 => decide +kernel); (case' pue => wtm_at "ev"); (case' pui => wtm_at "ev"); (case' pu5 => try (wtm_at "sd")); (case' pu6 => try (wtm_at "sd")); (case' pu7 => decide +kernel); (case' pu8 => decide +kernel))
  | ((with_reducible show S1 _ _ (.Assign [.Subscript (.Name "rows" _) _ _] _ _) _); refine' putF ?pu1 1 ?pu2 ?pu3 ?pu4 ?pue ?pui ?pu5 ?pu6 ?pu7 ?pu8; (case' pu1 => assumption); (case' pu2 => rfl); (case' pu3 => rfl); (case' pu4 => decide +kernel); (case' pue => wtm_at "ev"); (case' pui => wtm_at "ev"); (case' pu5 => try (wtm_at "sd")); (case' pu6 => try (wtm_at "sd")); (case' pu7 => decide +kernel); (case' pu8 => decide +kernel))
  | ((with_reducible show S1 _ _ (.Assign [.Subscript (.Name "left" _) _ _] _ _) _); refine' putF ?pu1 2 ?pu2 ?pu3 ?pu4 ?pue ?pui ?pu5 ?pu6 ?pu7 ?pu8; (case' pu1 => assumption); (case' pu2 => rfl); (case' pu3 => rfl); (case' pu4 => decide +kernel); (case' pue => wtm_at "ev"); (case' pui => wtm_at "ev"); (case' pu5 => try (wtm_at "sd")); (case' pu6 => try (wtm_at "sd")); (case' pu7 => decide +kernel); (case' pu8 => decide +kernel))
  | ((with_reducible show S1 _ _ (.Assign [.Subscript (.Name "ready" _) _ _] _ _) _); refine' putF ?pu1 3 ?pu2 ?pu3 ?pu4 ?pue ?pui ?pu5 ?pu6 ?pu7 ?pu8; (case' pu1 => assumption); (case' pu2 => rfl); (case' pu3 => rfl); (case' pu4 => decide +kernel); (case' pue => wtm_at "ev"); (case' pui => wtm_at "ev"); (case' pu5 => try (wtm_at "sd")); (case' pu6 => try (wtm_at "sd")); (case' pu7 => decide +kernel); (case' pu8 => decide +kernel))
  | ((with_reducible show S1 _ _ (.Assign [.Subscript (.Name "at" _) _ _] _ _) _); refine' putF ?pu1 4 ?pu2 ?pu3 ?pu4 ?pue ?pui ?pu5 ?pu6 ?pu7 ?pu8; (case' pu1 => assumption); (case' pu2 => rfl); (case' pu3 => rfl); (case' pu4 => decide +kernel); (case' pue => wtm_at "ev"); (case' pui => wtm_at "ev"); (case' pu5 => try (wtm_at "sd")); (case' pu6 => try (wtm_at "sd")); (case' pu7 => decide +kernel); (case' pu8 => decide +kernel))
  | ((with_reducible show S1 _ _ (.Assign [.Subscript (.Name "some" _) _ _] _ _) _); refine' putF ?pu1 5 ?pu2 ?pu3 ?pu4 ?pue ?pui ?pu5 ?pu6 ?pu7 ?pu8; (case' pu1 => assumption); (case' pu2 => rfl); (case' pu3 => rfl); (case' pu4 => decide +kernel); (case' pue => wtm_at "ev"); (case' pui => wtm_at "ev"); (case' pu5 => try (wtm_at "sd")); (case' pu6 => try (wtm_at "sd")); (case' pu7 => decide +kernel); (case' pu8 => decide +kernel))
  | ((with_reducible show S1 _ _ (.Assign [.Subscript (.Name "first" _) _ _] _ _) _); refine' putF ?pu1 6 ?pu2 ?pu3 ?pu4 ?pue ?pui ?pu5 ?pu6 ?pu7 ?pu8; (case' pu1 => assumption); (case' pu2 => rfl); (case' pu3 => rfl); (case' pu4 => decide +kernel); (case' pue => wtm_at "ev"); (case' pui => wtm_at "ev"); (case' pu5 => try (wtm_at "sd")); (case' pu6 => try (wtm_at "sd")); (case' pu7 => decide +kernel); (case' pu8 => decide +kernel))
  | ((with_reducible show S1 _ _ (.Assign [.Subscript (.Name "c" _) _ _] _ _) _); refine' putF ?pu1 7 ?pu2 ?pu3 ?pu4 ?pue ?pui ?pu5 ?pu6 ?pu7 ?pu8; (case' pu1 => assumption); (case' pu2 => rfl); (case' pu3 => rfl); (case' pu4 => decide +kernel); (case' pue => wtm_at "ev"); (case' pui => wtm_at "ev"); (case' pu5 => try (wtm_at "sd")); (case' pu6 => try (wtm_at "sd")); (case' pu7 => decide +kernel); (case' pu8 => decide +kernel)))
local macro_rules | `(tactic| wtm_at "reto") => `(tactic| first
  | ((with_reducible show S1 _ _ (.Return (some (.Name "P" _)) _) _); exact retOF (by assumption) 0 (by rfl) rfl (by decide +kernel) (by decide +kernel) (by decide +kernel))
  | ((with_reducible show S1 _ _ (.Return (some (.Name "rows" _)) _) _); exact retOF (by assumption) 1 (by rfl) rfl (by decide +kernel) (by decide +kernel) (by decide +kernel))
  | ((with_reducible show S1 _ _ (.Return (some (.Name "left" _)) _) _); exact retOF (by assumption) 2 (by rfl) rfl (by decide +kernel) (by decide +kernel) (by decide +kernel))
  | ((with_reducible show S1 _ _ (.Return (some (.Name "ready" _)) _) _); exact retOF (by assumption) 3 (by rfl) rfl (by decide +kernel) (by decide +kernel) (by decide +kernel))
  | ((with_reducible show S1 _ _ (.Return (some (.Name "at" _)) _) _); exact retOF (by assumption) 4 (by rfl) rfl (by decide +kernel) (by decide +kernel) (by decide +kernel))
  | ((with_reducible show S1 _ _ (.Return (some (.Name "some" _)) _) _); exact retOF (by assumption) 5 (by rfl) rfl (by decide +kernel) (by decide +kernel) (by decide +kernel))
  | ((with_reducible show S1 _ _ (.Return (some (.Name "first" _)) _) _); exact retOF (by assumption) 6 (by rfl) rfl (by decide +kernel) (by decide +kernel) (by decide +kernel))
  | ((with_reducible show S1 _ _ (.Return (some (.Name "c" _)) _) _); exact retOF (by assumption) 7 (by rfl) rfl (by decide +kernel) (by decide +kernel) (by decide +kernel)))
local macro_rules | `(tactic| wtm_at "tgt") => `(tactic| first
  | ((with_reducible show PG _ (.Name "P" _) _); exact tgF (by assumption) (by assumption) 0 (by rfl) (by decide +kernel))
  | ((with_reducible show PG _ (.Name "rows" _) _); exact tgF (by assumption) (by assumption) 1 (by rfl) (by decide +kernel))
  | ((with_reducible show PG _ (.Name "left" _) _); exact tgF (by assumption) (by assumption) 2 (by rfl) (by decide +kernel))
  | ((with_reducible show PG _ (.Name "ready" _) _); exact tgF (by assumption) (by assumption) 3 (by rfl) (by decide +kernel))
  | ((with_reducible show PG _ (.Name "at" _) _); exact tgF (by assumption) (by assumption) 4 (by rfl) (by decide +kernel))
  | ((with_reducible show PG _ (.Name "some" _) _); exact tgF (by assumption) (by assumption) 5 (by rfl) (by decide +kernel))
  | ((with_reducible show PG _ (.Name "first" _) _); exact tgF (by assumption) (by assumption) 6 (by rfl) (by decide +kernel))
  | ((with_reducible show PG _ (.Name "c" _) _); exact tgF (by assumption) (by assumption) 7 (by rfl) (by decide +kernel)))
theorem ok_reduced {f : Addr} {fd : FuncData} (F : Fun K "_law_reduced" "_law_reduced" s__law_reduced f fd) (hm : mg "_law_reduced" = some (.ref f)) (b : Binds K fd ["P", "rows"] []) (mli : mg "list" = none) (ml : mg "len" = none) (mr : mg "range" = none) (mt : mg "tuple" = none) (Gb : Fn P w K mg base 1 "_law_back" ["P", "x"] rLBack) (Gc : Fn P w K mg base 1 "_law_cleared" ["P", "row", "first", "at"] rCleared) : Fn P w K mg base 2 "_law_reduced" ["P", "rows"] rReduced := by
  refine fnF F hm b sc__law_reduced (fun ds r h => by cases h; rfl) fun X hX hT ds r h => ?_
  cases h with
  | @mk p wd rows hp hr h1 h9 hw =>
    have p3 := hp.lo
    have p9 := hp.hi
    have p1 : 1 < p := by omega
    have p0 : 0 < p := by omega
    have inv := red_inv hp hr
    refine' sm_cons (A1 := [.dat (.int p), .dat (lT rows), .own (.lst (rows.map tI)), .un, .un, .un, .un, .un, .un, .un, .un]) ?s1 ?_
    case' s1 => wtm_at "st"
    refine' sm_cons (A1 := [.dat (.int p), .dat (lT rows), .own (.lst (rows.map tI)), .own (.lst (([] : List (List Int)).map tI)), .un, .un, .un, .un, .un, .un, .un]) ?s2 ?_
    case' s2 => wtm_at "st"
    have r0 : (rows.getD 0 []).length = wd := (hr _ (getD_mem h1)).1
    refine' sm_cons ?s3 ?_
    case' s3 =>
      refine' forR0 hX (n := wd) 4 (fun i => [.dat (.int p), .dat (lT rows), .own (.lst ((redGo p rows i).1.map tI)), .own (.lst ((redGo p rows i).2.map tI)), .un, .un, .un, .un, .un, .un, .un]) ?i3 ?r3 ?g3 ?l3 (fun _ => rfl) (fun a ha => ?b3)
      case' i3 =>
        refine' rangeF hX (n := ((rows.getD 0 []).map PyData.int).length) ?i4 mr (lenF hX ?i5 ml (evs_dat (d := tI (rows.getD 0 [])) ?i6 SeqD.tup)) ?i7 ?i8
        case' i4 => decide +kernel
        case' i5 => decide +kernel
        case' i6 => exact ev_eq (ev_atD (evs_dat (by wtm_at "ev") SeqD.lst) ev_int (ixM [] (by omega) (by omega)) (fun _ _ => rfl)) rfl
        case i7 => omega
        case i8 => rw [List.length_map]; omega
      case' r3 => rw [List.length_map, r0, Int.toNat_natCast]
      case' g3 => wtm_at "tgt"
      case' l3 => exact LeA.refl
      have iv := inv a (by omega)
      have est : redGo p rows (a + 1) = redStep p a (redGo p rows a) := rfl
      rw [est]
      clear est
      generalize redGo p rows a = st at *
      obtain ⟨left, ready⟩ := st
      have hl := iv.len
      have hon := iv.on
      have hnul := iv.nul
      have hson := iv.st.on
      simp only at hl hon hnul hson
      clear iv
      have lz : left.length ≤ 100 := by omega
      have rz : ready.length ≤ 100 := by omega
      have hll : (left.map tI).length = left.length := List.length_map ..
      have el : ∀ k : Nat, k < left.length → RowOn p wd (left.getD k []) := fun k hk => hon _ (getD_mem hk)
      refine' sm_cons (A1 := [.dat (.int p), .dat (lT rows), .own (.lst (left.map tI)), .own (.lst (ready.map tI)), .dat (.int a), .own (.lst ((pickK left a).map fun k : Nat => .int (k : Int))), .un, .un, .un, .un, .un]) ?s9 ?_
      case' s9 =>
        refine' setLcIf hX 5 8 (List.range left.length) (fun k : Nat => .int (k : Int)) (fun k => decide ((left.getD k []).getD a 0 ≠ 0)) (fun k : Nat => .int (k : Int)) ?i9 ?r9 ?ok9 ?n9 ?x9 ?z9 ?j9 (fun Y hY z hz => ⟨?t9, fun _ => ?e9⟩) ?yn9 ?yl9 ?yj9 ?k9 ?l9 ?a9
        case' i9 =>
          refine' rangeF hX (n := ((left.map tI).length : Nat)) ?i10 mr (lenF hX ?i11 ml ?i12) ?i13 ?i14
          case' i10 => decide +kernel
          case' i11 => decide +kernel
          case' i12 => wtm_at "own"
          case i13 => omega
          case i14 => omega
        case' r9 => rw [hll, Int.toNat_natCast]
        case' ok9 => decide +kernel
        case' n9 => rfl
        case' x9 => decide +kernel
        case z9 => rw [List.length_range, sizeLine_eq]; omega
        case' j9 => rfl
        case' t9 =>
          have zl := List.mem_range.mp hz
          have zo := el z zl
          refine' et_eq (et_cmpR (d1 := .int ((left.getD z []).getD a 0)) (d2 := .int 0) (ev_eq (ev_atD (evs_dat (d := tI (left.getD z [])) (ev_eq (ev_atD ?u1 ?u2 (ixM (xs := left) (enc := tI) (i := (z : Int)) [] (by omega) (by omega)) (fun _ _ => rfl)) ?u3) SeqD.tup) ?u4 (IxD.nI (xs := left.getD z []) (i := (a : Int)) (by omega) (by rw [zo.1]; omega)) (fun _ _ => rfl)) ?u5) ?u6 (cmpR_D .neI)) ?u7
          case' u1 => wtm_at "own"
          case' u2 => wtm_at "ev"
          case u3 => rw [Int.toNat_natCast]
          case' u4 => wtm_at "ev"
          case u5 => rw [Int.toNat_natCast]
          case' u6 => wtm_at "ev"
          case u7 => simp
        case' e9 => wtm_at "ev"
        case' yn9 => rfl
        case' yl9 => decide +kernel
        case' yj9 => rfl
        case' k9 => decide +kernel
        case' l9 => decide +kernel
        case' a9 => decide +kernel
      refine' sm_one ?s15
      case' s15 =>
        have pm := range_filter_lt (n := left.length) (p := fun k => decide ((left.getD k []).getD a 0 ≠ 0))
        cases hpk : pickK left a with
        | nil =>
          have e : redStep p a (left, ready) = (left, ready) := by
            unfold redStep
            rw [show pickK (left, ready).1 a = [] from hpk]
          rw [e]
          refine' s1_if (v := false) ?c16 (fun h => nomatch h) fun _ => ?f16
          case' c16 =>
            refine' et_eq ?d16 ?e16
            case' d16 => wtm_at "test"
            case e16 => rfl
          case' f16 =>
            refine' sm_le sm_nil ?l16
            case' l16 => exact LeA.cons LeC.refl (LeA.cons LeC.refl (LeA.cons LeC.refl (LeA.cons LeC.refl (LeA.cons LeC.un (LeA.cons LeC.un LeA.refl)))))
        | cons k ks =>
          have e : redStep p a (left, ready) = ((left.eraseIdx k).map (clearV p (newRow p (left.getD k [])) a), ready.map (clearV p (newRow p (left.getD k [])) a) ++ [newRow p (left.getD k [])]) := by
            unfold redStep
            rw [show pickK (left, ready).1 a = k :: ks from hpk]
          rw [e]
          clear e
          have hk : k ∈ pickK left a := by rw [hpk]; exact List.mem_cons_self ..
          have kl : k < left.length := pm k hk
          have fne : (left.getD k []).getD a 0 ≠ 0 := of_decide_eq_true (List.mem_filter.mp hk).2
          have fon := el k kl
          have flead : lead (left.getD k []) = a := lead_eq (by rw [fon.1]; omega) (fun i hi => hnul _ (getD_mem kl) i hi) fne
          have hf0 : (left.map tI)[k]? = some (tI (left.getD k [])) := by
            rw [List.getElem?_map, List.getD_eq_getElem?_getD, List.getElem?_eq_getElem kl]; rfl
          have her : (left.map tI).eraseIdx k = (left.eraseIdx k).map tI := by rw [List.eraseIdx_eq_take_drop_succ, List.eraseIdx_eq_take_drop_succ, List.map_append, List.map_take, List.map_drop]
          have eon : ∀ r ∈ left.eraseIdx k, RowOn p wd r := fun r hr => hon r (List.mem_of_mem_eraseIdx hr)
          have el2 : (left.eraseIdx k).length ≤ 100 := Nat.le_trans (List.length_eraseIdx_le ..) lz
          obtain ⟨n1, n2, n3, n4, n5⟩ := newRow_ok hp fon (by omega)
          have enr : newRow p (left.getD k []) = (left.getD k []).map fun x => (backN p ((left.getD k []).getD a 0) * x) % p := by unfold newRow; rw [flead]
          have fb := on_get fon.2 (show a < (left.getD k []).length by rw [fon.1]; omega)
          have fmod : (left.getD k []).getD a 0 % p ≠ 0 := by rw [Int.emod_eq_of_lt fb.1 fb.2]; exact fne
          obtain ⟨q0, q1, q2⟩ := back_ok hp fmod
          refine' s1_if (v := true) ?c17 (fun _ => ?t17) fun h => nomatch h
          case' c17 =>
            refine' et_eq ?d17 ?e17
            case' d17 => wtm_at "test"
            case e17 => exact decide_eq_true (by simp only [List.map_cons, List.length_cons]; omega)
          case' t17 =>
            refine' sm_cons (A1 := [.dat (.int p), .dat (lT rows), .own (.lst ((left.eraseIdx k).map tI)), .own (.lst (ready.map tI)), .dat (.int a), .own (.lst ((k :: ks).map fun k : Nat => .int (k : Int))), .dat (tI (left.getD k [])), .un, .un, .un, .un]) ?s18 ?_
            case' s18 =>
              refine' s1_le (popAtF hX hT 6 2 (n := k) (d := tI (left.getD k [])) (by rfl) ?a18 (by rfl) (by rfl) (by decide) (by rfl) ?b18 (ev_atD ?c18 ev_int ix0' (fun _ _ => rfl)) hf0 ?d18 ?e18 ?f18) ?l18
              case' a18 => decide +kernel
              case' b18 => decide +kernel
              case' c18 => wtm_at "own"
              case d18 => rw [hll, sizeLine_eq]; omega
              case' e18 => decide +kernel
              case' f18 => decide +kernel
              case' l18 =>
                rw [her]
                exact LeA.refl
            clear hf0 her
            generalize left.getD k [] = fo at *
            generalize left.eraseIdx k = le at *
            have fl := fon.1
            have ea : ((a : Int)).toNat = a := Int.toNat_natCast a
            refine' sm_cons (A1 := [.dat (.int p), .dat (lT rows), .own (.lst (le.map tI)), .own (.lst (ready.map tI)), .dat (.int a), .un, .dat (tI fo), .dat (.int (backN p (fo.getD a 0))), .un, .un, .un]) ?s19 ?_
            case' s19 =>
              refine' s1_le (setF hX hT 7 (by rfl) ?a19 (callF hX Gb (by decide) ?b19 (ea_cons ?c19 (ea_cons (ev_eq (ev_atD (evs_dat (d := tI fo) ?d19 SeqD.tup) ?e19 (IxD.nI (xs := fo) (i := (a : Int)) (by omega) (by omega)) (fun _ _ => rfl)) ?f19) ea_nil)) (rLBack.mk hp fb.1 fb.2 fmod) ?g19) (by rfl)) ?l19
              case' a19 => decide +kernel
              case' b19 => decide +kernel
              case' c19 => wtm_at "ev"
              case' d19 => wtm_at "ev"
              case' e19 => wtm_at "ev"
              case f19 => rw [ea]
              case' g19 => decide +kernel
              case' l19 => exact LeA.cons LeC.refl (LeA.cons LeC.refl (LeA.cons LeC.refl (LeA.cons LeC.refl (LeA.cons LeC.refl (LeA.cons LeC.un LeA.refl)))))
            generalize backN p (fo.getD a 0) = cb at *
            refine' sm_cons (A1 := [.dat (.int p), .dat (lT rows), .own (.lst (le.map tI)), .own (.lst (ready.map tI)), .dat (.int a), .un, .dat (tI (newRow p fo)), .un, .un, .un, .un]) ?s20 ?_
            case' s20 =>
              rw [enr]
              refine' s1_le (setF hX hT 6 (by rfl) ?a20 (tupleF hX (ds := (fo.map fun x => cb * x % p).map .int) ?b20 mt (evs_new (ev_eq (lcF hX 9 fo PyData.int (fun x => .int (cb * x % p)) ?i20 rfl ?ok20 ?n20 ?x20 ?z20 ?j20 fun Y hY z hz => ?y20) ?w20))) (by rfl)) ?l20
              case' a20 => decide +kernel
              case' b20 => decide +kernel
              case' i20 => exact ei_dat (d := tI fo) (by wtm_at "ev") SeqD.tup
              case' ok20 => decide +kernel
              case' n20 => rfl
              case' x20 => decide +kernel
              case z20 => rw [fl, sizeLine_eq]; omega
              case' j20 => rfl
              case w20 => rw [List.map_map]; rfl
              case' y20 =>
                have cm : CMul cb z := .inl (by omega)
                wtm_at "ev"
              case' l20 => exact LeA.cons LeC.refl (LeA.cons LeC.refl (LeA.cons LeC.refl (LeA.cons LeC.refl (LeA.cons LeC.refl (LeA.cons LeC.refl (LeA.cons LeC.refl (LeA.cons LeC.un LeA.refl)))))))
            generalize newRow p fo = nr at *
            refine' sm_frz 2 rfl ?_
            refine' sm_frz 3 rfl ?_
            refine' sm_cons (A1 := [.dat (.int p), .dat (lT rows), .own (.lst ((le.map (clearV p nr a)).map tI)), .dat (.list (ready.map tI)), .dat (.int a), .un, .dat (tI nr), .un, .un, .un, .un]) ?s21 ?_
            case' s21 =>
              refine' setF hX hT 2 (by rfl) ?a21 (ev_eq (lcF hX 10 le tI (fun r => tI (clearV p nr a r)) ?i21 rfl ?ok21 ?n21 ?x21 ?z21 ?j21 fun Y hY z hz => ?y21) ?w21) (by rfl) ?q21
              case' a21 => decide +kernel
              case' i21 => wtm_at "iter"
              case' ok21 => decide +kernel
              case' n21 => rfl
              case' x21 => decide +kernel
              case z21 => rw [sizeLine_eq]; omega
              case' j21 => rfl
              case w21 => rw [List.map_map]; rfl
              case' q21 => exact sw_cell (by rw [hX.eS]; decide +kernel)
              case' y21 =>
                have zo := eon z hz
                wtm_at "ev"
            refine' sm_le (sm_one ?s22) ?l22
            case' s22 =>
              refine' setF hX hT 3 (c := .own (.lst ((ready.map (clearV p nr a) ++ [nr]).map tI))) (by rfl) ?a22 (ev_eq (ev_catL (ds := (ready.map (clearV p nr a)).map tI) (es := [tI nr]) (evl_new (ev_eq (lcF hX 10 ready tI (fun r => tI (clearV p nr a r)) ?i22 rfl ?ok22 ?n22 ?x22 ?z22 ?j22 fun Y hY z hz => ?y22) ?w22)) (evl_new (ev_lst (ea_cons ?b22 ea_nil) ?c22)) ?d22) ?e22) (by rfl)
              case' a22 => decide +kernel
              case' i22 => wtm_at "iter"
              case' ok22 => decide +kernel
              case' n22 => rfl
              case' x22 => decide +kernel
              case z22 => rw [sizeLine_eq]; omega
              case' j22 => rfl
              case w22 => rw [List.map_map]; rfl
              case' y22 =>
                have zo := hson z hz
                wtm_at "ev"
              case' b22 => wtm_at "ev"
              case c22 => rw [sizeLine_eq]; show 1 ≤ 16777216; decide
              case d22 => rw [List.length_map, List.length_map, sizeLine_eq]; show ready.length + 1 ≤ 16777216; omega
              case e22 => rw [List.map_append]; rfl
            case' l22 => exact LeA.cons LeC.refl (LeA.cons LeC.refl (LeA.cons LeC.refl (LeA.cons LeC.refl (LeA.cons LeC.un (LeA.cons LeC.un (LeA.cons LeC.un LeA.refl))))))
    rw [red_eq hp hr]
    refine' sm_end ?s23
    case' s23 => wtm_at "st"
end
end W

namespace W
open PySem PySem.Spec PyProof.Rows L2 LR
theorem erow_eq {n k : Nat} (hk : k < n) : List.replicate k (0 : Int) ++ [1] ++ List.replicate (n - 1 - k) 0 = eRow n k := by
  refine List.ext_getElem? fun i => ?_
  unfold eRow
  rcases Nat.lt_or_ge i n with hi | hi
  · rw [List.getElem?_map, List.getElem?_range hi]
    rcases Nat.lt_trichotomy i k with z | rfl | z
    · rw [List.getElem?_append_left (by simp; omega), List.getElem?_append_left (by simp; omega)]
      simp [List.getElem?_replicate, z]
      omega
    · rw [List.getElem?_append_left (by simp), List.getElem?_append_right (by simp)]
      simp
    · rw [List.getElem?_append_right (by simp; omega)]
      have : i - (k + 1) < n - 1 - k := by omega
      have hne : ¬ (i : Int) = k := by omega
      simp [List.getElem?_replicate, this, hne]
  · rw [List.getElem?_eq_none (by simp; omega), List.getElem?_eq_none (by simp; omega)]
section
variable {P : Int} {wd : Nat} {rows : List (List Int)} (hp : Prm P) (hr : RowsOn P wd rows)
include hp hr
/-- a row of the longer ones whose front is nothing -/
theorem front_zero {r : List Int} (h : r.length = wd + rows.length) : decide (r.take wd = List.replicate wd 0) = decide (wd ≤ lead r) := by
  by_cases hl : wd ≤ lead r
  · rw [decide_eq_true hl, decide_eq_true]
    have z := fr_lead hp hr h hl
    refine List.ext_getElem? fun i => ?_
    rcases Nat.lt_or_ge i wd with hi | hi
    · have := z i hi
      rw [List.getElem?_take_of_lt hi, List.getElem?_replicate, if_pos hi, List.getElem?_eq_getElem (by omega)]
      rw [List.getD_eq_getElem?_getD, List.getElem?_eq_getElem (by omega)] at this
      exact congrArg some this
    · rw [List.getElem?_eq_none (by rw [List.length_take]; omega), List.getElem?_eq_none (by simp; omega)]
  · rw [decide_eq_false hl, decide_eq_false]
    intro e
    refine hl (lead_fr hp hr h fun j hj => ?_)
    rw [← take_get (k := wd) hj, e, rep_get]
/-- told as a sum: it comes of the rows -/
theorem told_in {goal : List Int} (hg : RowOn P wd goal) (hl : wd ≤ lead (leftOf P rows goal)) : Sp P wd (· ∈ rows) goal := by
  have p1 := hp.one
  have lo : RowOn P (wd + rows.length) (restBy P (withWeights P rows) (goal ++ zeroV rows.length)) := left_on hp hr hg
  have go := goal_on hp hr hg
  obtain ⟨a, b⟩ := ww_steps hp hr
  have sp := (b _).mp (sub_rest p1 a go)
  have fs := front_sp hp hr sp
  have z := fr_lead hp hr lo.1 (show wd ≤ lead (restBy P (withWeights P rows) (goal ++ zeroV rows.length)) from hl)
  have e : (lessV P (goal ++ zeroV rows.length) (restBy P (withWeights P rows) (goal ++ zeroV rows.length)) 1).take wd = goal := by
    have so := less_on p1 (c := 1) go.1 lo.1
    refine vext p1 (take_on so) hg fun j hj => ?_
    rw [take_get hj, lessV_get (by rw [go.1, lo.1]) (by rw [go.1]; omega), goal_get hp hr hg hj, z j hj, Int.mul_zero, Int.sub_zero]
    exact Em.of_eq (emod_on (on_get hg.2 (by rw [hg.1]; exact hj)))
  rw [e] at fs
  exact fs
/-- the goal is free of the rows just where it is told as shut off -/
theorem free_iff {goal : List Int} (hg : RowOn P wd goal) : (stepsForm P rows).length < (stepsForm P (rows ++ [goal])).length ↔ lead (leftOf P rows goal) < wd := by
  have p1 := hp.one
  obtain ⟨a, b, c⟩ := stepsForm_ok hp hr
  have ro := rest_on (P := P) (show 0 < P by omega) a.on hg.1 hg.2
  have e : stepsForm P (rows ++ [goal]) = withRow P (stepsForm P rows) goal := by unfold stepsForm; rw [List.foldl_append]; rfl
  rw [e]
  unfold withRow
  constructor
  · intro h
    refine Classical.byContradiction fun hn => ?_
    have sp := told_in hp hr hg (by omega)
    have z := rest_null p1 a (sp.bind p1 (fun r h => (hr r h).1) a.hS c)
    rw [if_pos (by rw [z, zero_lead]; simp)] at h
    omega
  · intro h
    have := shut_in hp hr hg h
    rw [if_neg (by rw [ro.1]; omega)]
    unfold addRow
    rw [List.length_mergeSort, List.length_append, List.length_map]
    exact Nat.lt_succ_self _
end
section
variable {P : Program} {w : World} {K : PySem.W.Frag} {mg : Str → Option Value} {base : Heap}
inductive rLIdle : List PyData → Res → Prop
  | mk {p : Int} {wd : Nat} {rows : List (List Int)} (hp : Prm p) (hr : RowsOn p wd rows) (h1 : 1 ≤ rows.length) (h9 : rows.length ≤ 50) (hw : wd ≤ 50) : rLIdle [.int p, lT rows] (.ok (.own (.lst ((idleSums p wd rows).map tI))))
local macro_rules | `(tactic| wtm_at "nm") => `(tactic| first
  | ((with_reducible show Ev _ _ (.Name "P" _) _); exact nmF (by assumption) 0 (by rfl) rfl (by decide +kernel) (by decide +kernel) (by decide +kernel))
  | ((with_reducible show Ev _ _ (.Name "rows" _) _); exact nmF (by assumption) 1 (by rfl) rfl (by decide +kernel) (by decide +kernel) (by decide +kernel))
  | ((with_reducible show Ev _ _ (.Name "wide" _) _); exact nmF (by assumption) 2 (by rfl) rfl (by decide +kernel) (by decide +kernel) (by decide +kernel))
  | ((with_reducible show Ev _ _ (.Name "size" _) _); exact nmF (by assumption) 3 (by rfl) rfl (by decide +kernel) (by decide +kernel) (by decide +kernel))
  | ((with_reducible show Ev _ _ (.Name "longer" _) _); exact nmF (by assumption) 4 (by rfl) rfl (by decide +kernel) (by decide +kernel) (by decide +kernel))
  | ((with_reducible show Ev _ _ (.Name "k" _) _); exact nmF (by assumption) 5 (by rfl) rfl (by decide +kernel) (by decide +kernel) (by decide +kernel))
  | ((with_reducible show Ev _ _ (.Name "row" _) _); exact nmF (by assumption) 6 (by rfl) rfl (by decide +kernel) (by decide +kernel) (by decide +kernel)))
local macro_rules | `(tactic| wtm_at "own") => `(tactic| first
  | ((with_reducible show EvS _ _ (.Name "P" _) _ _); exact ownF (by assumption) 0 (by rfl) rfl (by decide +kernel) (by decide +kernel) (by decide +kernel))
  | ((with_reducible show EvS _ _ (.Name "rows" _) _ _); exact ownF (by assumption) 1 (by rfl) rfl (by decide +kernel) (by decide +kernel) (by decide +kernel))
  | ((with_reducible show EvS _ _ (.Name "wide" _) _ _); exact ownF (by assumption) 2 (by rfl) rfl (by decide +kernel) (by decide +kernel) (by decide +kernel))
  | ((with_reducible show EvS _ _ (.Name "size" _) _ _); exact ownF (by assumption) 3 (by rfl) rfl (by decide +kernel) (by decide +kernel) (by decide +kernel))
  | ((with_reducible show EvS _ _ (.Name "longer" _) _ _); exact ownF (by assumption) 4 (by rfl) rfl (by decide +kernel) (by decide +kernel) (by decide +kernel))
  | ((with_reducible show EvS _ _ (.Name "k" _) _ _); exact ownF (by assumption) 5 (by rfl) rfl (by decide +kernel) (by decide +kernel) (by decide +kernel))
  | ((with_reducible show EvS _ _ (.Name "row" _) _ _); exact ownF (by assumption) 6 (by rfl) rfl (by decide +kernel) (by decide +kernel) (by decide +kernel)))
local macro_rules | `(tactic| wtm_at "ownl") => `(tactic| first
  | ((with_reducible show EvL _ _ (.Name "P" _) _); exact ownlF (by assumption) 0 (by rfl) rfl (by decide +kernel) (by decide +kernel) (by decide +kernel))
  | ((with_reducible show EvL _ _ (.Name "rows" _) _); exact ownlF (by assumption) 1 (by rfl) rfl (by decide +kernel) (by decide +kernel) (by decide +kernel))
  | ((with_reducible show EvL _ _ (.Name "wide" _) _); exact ownlF (by assumption) 2 (by rfl) rfl (by decide +kernel) (by decide +kernel) (by decide +kernel))
  | ((with_reducible show EvL _ _ (.Name "size" _) _); exact ownlF (by assumption) 3 (by rfl) rfl (by decide +kernel) (by decide +kernel) (by decide +kernel))
  | ((with_reducible show EvL _ _ (.Name "longer" _) _); exact ownlF (by assumption) 4 (by rfl) rfl (by decide +kernel) (by decide +kernel) (by decide +kernel))
  | ((with_reducible show EvL _ _ (.Name "k" _) _); exact ownlF (by assumption) 5 (by rfl) rfl (by decide +kernel) (by decide +kernel) (by decide +kernel))
  | ((with_reducible show EvL _ _ (.Name "row" _) _); exact ownlF (by assumption) 6 (by rfl) rfl (by decide +kernel) (by decide +kernel) (by decide +kernel)))
local macro_rules | `(tactic| wtm_at "set") => `(tactic| first
  | ((with_reducible show S1 _ _ (.Assign [.Name "P" _] _ _) _); refine' setF ?st1 ?st2 0 ?st3 ?st4 ?ste ?st5; (case' st1 => assumption); (case' st2 => assumption); (case' st3 => rfl); (case' st4 => decide +kernel); (case' ste => wtm_at "ev"); (case' st5 => rfl))
  | ((with_reducible show S1 _ _ (.Assign [.Name "rows" _] _ _) _); refine' setF ?st1 ?st2 1 ?st3 ?st4 ?ste ?st5; (case' st1 => assumption); (case' st2 => assumption); (case' st3 => rfl); (case' st4 => decide +kernel); (case' ste => wtm_at "ev"); (case' st5 => rfl))
  | ((with_reducible show S1 _ _ (.Assign [.Name "wide" _] _ _) _); refine' setF ?st1 ?st2 2 ?st3 ?st4 ?ste ?st5; (case' st1 => assumption); (case' st2 => assumption); (case' st3 => rfl); (case' st4 => decide +kernel); (case' ste => wtm_at "ev"); (case' st5 => rfl))
  | ((with_reducible show S1 _ _ (.Assign [.Name "size" _] _ _) _); refine' setF ?st1 ?st2 3 ?st3 ?st4 ?ste ?st5; (case' st1 => assumption); (case' st2 => assumption); (case' st3 => rfl); (case' st4 => decide +kernel); (case' ste => wtm_at "ev"); (case' st5 => rfl))
  | ((with_reducible show S1 _ _ (.Assign [.Name "longer" _] _ _) _); refine' setF ?st1 ?st2 4 ?st3 ?st4 ?ste ?st5; (case' st1 => assumption); (case' st2 => assumption); (case' st3 => rfl); (case' st4 => decide +kernel); (case' ste => wtm_at "ev"); (case' st5 => rfl)))
local macro_rules | `(tactic| wtm_at "app") => `(tactic| first
  | ((with_reducible show S1 _ _ (.Expr (.Call (.Attribute (.Name "P" _) _ _) _ _ _) _) _); refine' appF ?ap1 0 ?ap2 ?ap3 ?ap4 ?ape ?aps ?ap5 ?ap6; (case' ap1 => assumption); (case' ap2 => rfl); (case' ap3 => rfl); (case' ap4 => decide +kernel); (case' ape => wtm_at "ev"); (case' aps => try (wtm_at "sz")); (case' ap5 => decide +kernel); (case' ap6 => decide +kernel))
  | ((with_reducible show S1 _ _ (.Expr (.Call (.Attribute (.Name "rows" _) _ _) _ _ _) _) _); refine' appF ?ap1 1 ?ap2 ?ap3 ?ap4 ?ape ?aps ?ap5 ?ap6; (case' ap1 => assumption); (case' ap2 => rfl); (case' ap3 => rfl); (case' ap4 => decide +kernel); (case' ape => wtm_at "ev"); (case' aps => try (wtm_at "sz")); (case' ap5 => decide +kernel); (case' ap6 => decide +kernel))
  | ((with_reducible show S1 _ _ (.Expr (.Call (.Attribute (.Name "wide" _) _ _) _ _ _) _) _); refine' appF ?ap1 2 ?ap2 ?ap3 ?ap4 ?ape ?aps ?ap5 ?ap6; (case' ap1 => assumption); (case' ap2 => rfl); (case' ap3 => rfl); (case' ap4 => decide +kernel); (case' ape => wtm_at "ev"); (case' aps => try (wtm_at "sz")); (case' ap5 => decide +kernel); (case' ap6 => decide +kernel))
  | ((with_reducible show S1 _ _ (.Expr (.Call (.Attribute (.Name "size" _) _ _) _ _ _) _) _); refine' appF ?ap1 3 ?ap2 ?ap3 ?ap4 ?ape ?aps ?ap5 ?ap6; (case' ap1 => assumption); (case' ap2 => rfl); (case' ap3 => rfl); (case' ap4 => decide +kernel); (case' ape => wtm_at "ev"); (case' aps => try (wtm_at "sz")); (case' ap5 => decide +kernel); (case' ap6 => decide +kernel))
  | ((with_reducible show S1 _ _ (.Expr (.Call (.Attribute (.Name "longer" _) _ _) _ _ _) _) _); refine' appF ?ap1 4 ?ap2 ?ap3 ?ap4 ?ape ?aps ?ap5 ?ap6; (case' ap1 => assumption); (case' ap2 => rfl); (case' ap3 => rfl); (case' ap4 => decide +kernel); (case' ape => wtm_at "ev"); (case' aps => try (wtm_at "sz")); (case' ap5 => decide +kernel); (case' ap6 => decide +kernel)))
local macro_rules | `(tactic| wtm_at "put") => `(tactic| first
  | ((with_reducible show S1 _ _ (.Assign [.Subscript (.Name "P" _) _ _] _ _) _); refine' putF ?pu1 0 ?pu2 ?pu3 ?pu4 ?pue ?pui ?pu5 ?pu6 ?pu7 ?pu8; (case' pu1 => assumption); (case' pu2 => rfl); (case' pu3 => rfl); (case' pu4 => decide +kernel); (case' pue => wtm_at "ev"); (case' pui => wtm_at "ev"); (case' pu5 => try (wtm_at "sd")); (case' pu6 => try (wtm_at "sd")); (case' pu7 => decide +kernel); (case' pu8 => decide +kernel))
  | ((with_reducible show S1 _ _ (.Assign [.Subscript (.Name "rows" _) _ _] _ _) _); refine' putF ?pu1 1 ?pu2 ?pu3 ?pu4 ?pue ?pui ?pu5 ?pu6 ?pu7 ?pu8; (case' pu1 => assumption); (case' pu2 => rfl); (case' pu3 => rfl); (case' pu4 => decide +kernel); (case' pue => wtm_at "ev"); (case' pui => wtm_at "ev"); (case' pu5 => try (wtm_at "sd")); (case' pu6 => try (wtm_at "sd")); (case' pu7 => decide +kernel); (case' pu8 => decide +kernel))
  | ((with_reducible show S1 _ _ (.Assign [.Subscript (.Name "wide" _) _ _] _ _) _); refine' putF ?pu1 2 ?pu2 ?pu3 ?pu4 ?pue ?pui ?pu5 ?pu6 ?pu7 ?pu8; (case' pu1 => assumption); (case' pu2 => rfl); (case' pu3 => rfl); (case' pu4 => decide +kernel); (case' pue => wtm_at "ev"); (case' pui => wtm_at "ev"); (case' pu5 => try (wtm_at "sd")); (case' pu6 => try (wtm_at "sd")); (case' pu7 => decide +kernel); (case' pu8 => decide +kernel))
  | ((with_reducible show S1 _ _ (.Assign [.Subscript (.Name "size" _) _ _] _ _) _); refine' putF ?pu1 3 ?pu2 ?pu3 ?pu4 ?pue ?pui ?pu5 ?pu6 ?pu7 ?pu8; (case' pu1 => assumption); (case' pu2 => rfl); (case' pu3 => rfl); (case' pu4 => decide +kernel); (case' pue => wtm_at "ev"); (case' pui => wtm_at "ev"); (case' pu5 => try (wtm_at "sd")); (case' pu6 => try (wtm_at "sd")); (case' pu7 => decide +kernel); (case' pu8 => decide +kernel))
  | ((with_reducible show S1 _ _ (.Assign [.Subscript (.Name "longer" _) _ _] _ _) _); refine' putF ?pu1 4 ?pu2 ?pu3 ?pu4 ?pue ?pui ?pu5 ?pu6 ?pu7 ?pu8; (case' pu1 => assumption); (case' pu2 => rfl); (case' pu3 => rfl); (case' pu4 => decide +kernel); (case' pue => wtm_at "ev"); (case' pui => wtm_at "ev"); (case' pu5 => try (wtm_at "sd")); (case' pu6 => try (wtm_at "sd")); (case' pu7 => decide +kernel); (case' pu8 => decide +kernel)))
local macro_rules | `(tactic| wtm_at "reto") => `(tactic| first
  | ((with_reducible show S1 _ _ (.Return (some (.Name "P" _)) _) _); exact retOF (by assumption) 0 (by rfl) rfl (by decide +kernel) (by decide +kernel) (by decide +kernel))
  | ((with_reducible show S1 _ _ (.Return (some (.Name "rows" _)) _) _); exact retOF (by assumption) 1 (by rfl) rfl (by decide +kernel) (by decide +kernel) (by decide +kernel))
  | ((with_reducible show S1 _ _ (.Return (some (.Name "wide" _)) _) _); exact retOF (by assumption) 2 (by rfl) rfl (by decide +kernel) (by decide +kernel) (by decide +kernel))
  | ((with_reducible show S1 _ _ (.Return (some (.Name "size" _)) _) _); exact retOF (by assumption) 3 (by rfl) rfl (by decide +kernel) (by decide +kernel) (by decide +kernel))
  | ((with_reducible show S1 _ _ (.Return (some (.Name "longer" _)) _) _); exact retOF (by assumption) 4 (by rfl) rfl (by decide +kernel) (by decide +kernel) (by decide +kernel)))
local macro_rules | `(tactic| wtm_at "tgt") => `(tactic| first
  | ((with_reducible show PG _ (.Name "P" _) _); exact tgF (by assumption) (by assumption) 0 (by rfl) (by decide +kernel))
  | ((with_reducible show PG _ (.Name "rows" _) _); exact tgF (by assumption) (by assumption) 1 (by rfl) (by decide +kernel))
  | ((with_reducible show PG _ (.Name "wide" _) _); exact tgF (by assumption) (by assumption) 2 (by rfl) (by decide +kernel))
  | ((with_reducible show PG _ (.Name "size" _) _); exact tgF (by assumption) (by assumption) 3 (by rfl) (by decide +kernel))
  | ((with_reducible show PG _ (.Name "longer" _) _); exact tgF (by assumption) (by assumption) 4 (by rfl) (by decide +kernel)))
theorem ok_lidle {f : Addr} {fd : FuncData} (F : Fun K "_law_idle" "_law_idle" s__law_idle f fd) (hm : mg "_law_idle" = some (.ref f)) (b : Binds K fd ["P", "rows"] []) (ml : mg "len" = none) (mr : mg "range" = none) (Gr : Fn P w K mg base 2 "_law_reduced" ["P", "rows"] rReduced) : Fn P w K mg base 3 "_law_idle" ["P", "rows"] rLIdle := by
  refine fnF F hm b sc__law_idle (fun ds r h => by cases h; rfl) fun X hX hT ds r h => ?_
  cases h with
  | @mk p wd rows hp hr h1 h9 hw =>
    have r0 : (rows.getD 0 []).length = wd := (hr _ (getD_mem h1)).1
    refine' sm_cons (A1 := [.dat (.int p), .dat (lT rows), .dat (.int wd), .un, .un, .un, .un]) ?s1 ?_
    case' s1 =>
      refine' setF hX hT 2 (by rfl) ?q1 (ev_eq (lenF hX ?a1 ml (evs_dat (d := tI (rows.getD 0 [])) ?b1 SeqD.tup)) ?c1) (by rfl)
      case' q1 => decide +kernel
      case' a1 => decide +kernel
      case' b1 => exact ev_eq (ev_atD (evs_dat (by wtm_at "ev") SeqD.lst) ev_int (ixM [] (by omega) (by omega)) (fun _ _ => rfl)) rfl
      case c1 => rw [List.length_map, r0]
    refine' sm_cons (A1 := [.dat (.int p), .dat (lT rows), .dat (.int wd), .dat (.int rows.length), .un, .un, .un]) ?s2 ?_
    case' s2 =>
      refine' setF hX hT 3 (by rfl) ?q2 (ev_eq ?a2 ?b2) (by rfl)
      case' q2 => decide +kernel
      case' a2 => wtm_at "ev"
      case b2 => rw [List.length_map]
    refine' sm_cons (A1 := [.dat (.int p), .dat (lT rows), .dat (.int wd), .dat (.int rows.length), .own (.lst ((extRows rows).map tI)), .un, .un]) ?s3 ?_
    case' s3 =>
      refine' s1_le (setLcF hX 4 5 (List.range rows.length) (fun k : Nat => .int (k : Int)) (fun k => tI (extRow rows k)) ?i3 ?r3 ?ok3 ?n3 ?x3 ?z3 ?j3 (fun Y hY z hz => ?e3) ?yn3 ?yl3 ?yj3 ?k3 ?l3 ?a3) ?m3
      case' i3 => wtm_at "iter"
      case' r3 => rw [Int.toNat_natCast]
      case' ok3 => decide +kernel
      case' n3 => rfl
      case' x3 => decide +kernel
      case z3 => rw [List.length_range, sizeLine_eq]; omega
      case' j3 => rfl
      case' yn3 => rfl
      case' yl3 => decide +kernel
      case' yj3 => rfl
      case' k3 => decide +kernel
      case' l3 => decide +kernel
      case' a3 => decide +kernel
      case' m3 =>
        unfold extRows
        rw [List.map_map]
        exact LeA.refl
      case' e3 =>
        have zl := List.mem_range.mp hz
        have zo := hr _ (getD_mem (z := []) zl)
        have ez : ((rows.length : Int) - 1 - z).toNat = rows.length - 1 - z := by omega
        refine' ev_eq (ev_catT (ds := (rows.getD z [] ++ List.replicate z 0 ++ [1]).map .int) (es := (List.replicate (rows.length - 1 - z) (0 : Int)).map .int) (ev_eq (ev_catT (ds := (rows.getD z [] ++ List.replicate z 0).map .int) (es := [.int 1]) (ev_eq (ev_catT (ds := (rows.getD z []).map .int) (es := (List.replicate z (0 : Int)).map .int) ?a4 ?b4 ?c4) ?d4) ?e4 ?f4) ?g4) ?h4 ?i4) ?j4
        case' a4 => exact ev_eq (ev_atD (evs_dat (by wtm_at "ev") SeqD.lst) (by wtm_at "ev") (ixM (xs := rows) (enc := tI) (i := (z : Int)) [] (by omega) (by omega)) (fun _ _ => rfl)) (by rw [Int.toNat_natCast])
        case' b4 =>
          refine' ev_eq ?b5 ?b6
          case' b5 => wtm_at "ev"
          case b6 => rw [Int.toNat_natCast]
        case c4 => rw [List.length_map, List.length_map, List.length_replicate, zo.1, sizeLine_eq]; omega
        case d4 => rw [← List.map_append]
        case' e4 => wtm_at "ev"
        case f4 => rw [List.length_map, List.length_append, List.length_replicate, zo.1, sizeLine_eq]; show wd + z + 1 ≤ 16777216; omega
        case g4 => rw [List.map_append (l₂ := [(1 : Int)])]; rfl
        case' h4 =>
          refine' ev_eq ?h5 ?h6
          case' h5 => wtm_at "ev"
          case h6 => rw [ez]
        case i4 => rw [List.length_map, List.length_map, List.length_append, List.length_append, List.length_replicate, List.length_replicate, zo.1, sizeLine_eq]; show wd + z + 1 + _ ≤ 16777216; omega
        case j4 =>
          unfold extRow
          rw [← erow_eq zl, ← List.map_append, List.append_assoc, List.append_assoc, List.append_assoc]
    refine' sm_frz 4 rfl ?_
    have ext_on : RowsOn p (wd + rows.length) (extRows rows) := extRows_on hp.one hr
    have el : (extRows rows).length = rows.length := by simp [extRows]
    have won : RowsOn p (wd + rows.length) (withWeights p rows) := (stepsForm_ok hp ext_on).1.on
    have wl := ww_len hp hr
    have ez : (0 : Int).toNat = 0 := rfl
    refine' sm_end (s1_retE (lcIf hX 6 (withWeights p rows) tI (fun r => decide (r.take wd = List.replicate wd 0)) (fun r => tI (r.drop wd)) ?i7 rfl ?ok7 ?n7 ?x7 ?z7 ?j7 fun Y hY z hz => ⟨?t7, fun _ => ?e7⟩) ?f7)
    case' i7 =>
      refine' ei_dat (ev_frz (callF hX Gr (by decide) ?a7 ?b7 (rReduced.mk hp ext_on (by omega) (by omega) (by omega)) ?c7)) SeqD.lst
      case' a7 => decide +kernel
      case' b7 => wtm_at "args"
      case' c7 => decide +kernel
    case' ok7 => decide +kernel
    case' n7 => rfl
    case' x7 => decide +kernel
    case z7 => rw [wl, sizeLine_eq]; omega
    case' j7 => rfl
    case' t7 =>
      have zo := won z hz
      refine' et_cmpR (d1 := tI (z.take wd)) (d2 := tI (List.replicate wd 0)) (ev_eq ?a8 ?b8) (ev_eq ?c8 ?d8) (cmpEqI hY)
      case' a8 => wtm_at "ev"
      case b8 => rw [Int.toNat_natCast]
      case' c8 => wtm_at "ev"
      case d8 => rw [Int.toNat_natCast]
    case' e7 =>
      refine' ev_eq ?a9 ?b9
      case' a9 => wtm_at "ev"
      case b9 => rw [Int.toNat_natCast]
    case f7 =>
      unfold idleSums
      rw [List.map_map]
      congr 3
      exact List.filter_congr fun r hr2 => front_zero hp hr (won r hr2).1
/-! a great number -/
def numGo (s : List Int) (i : Nat) : Int := (s.take i).foldl (fun n c => n * 999999999999999989 + c % 10 ^ (18 : Int).toNat) 7
theorem num_succ {s : List Int} {i : Nat} (h : i < s.length) : numGo s (i + 1) = numGo s i * 999999999999999989 + s[i] % 10 ^ (18 : Int).toNat := by
  unfold numGo
  rw [List.take_add_one, List.getElem?_eq_getElem h, Option.toList_some, List.foldl_append]
  rfl
theorem num_lt {s : List Int} : ∀ i, i ≤ s.length → 0 ≤ numGo s i ∧ numGo s i < 2 ^ (60 * i + 3)
  | 0, _ => ⟨by show (0 : Int) ≤ 7; decide, by show (7 : Int) < 2 ^ 3; decide⟩
  | i + 1, h => by
    obtain ⟨a, b⟩ := num_lt (s := s) i (by omega)
    rw [num_succ (s := s) (i := i) (by omega)]
    have e18 : (10 : Int) ^ (18 : Int).toNat = 1000000000000000000 := by decide
    rw [e18]
    have c0 := Int.emod_nonneg s[i] (show (1000000000000000000 : Int) ≠ 0 by decide)
    have c1 := Int.emod_lt_of_pos s[i] (show (0 : Int) < 1000000000000000000 by decide)
    have e : (2 : Int) ^ (60 * (i + 1) + 3) = 2 ^ (60 * i + 3) * 1152921504606846976 := by
      rw [show 60 * (i + 1) + 3 = (60 * i + 3) + 60 by omega, Int.pow_add]
      rfl
    rw [e]
    generalize (2 : Int) ^ (60 * i + 3) = q at *
    generalize numGo s i = n at *
    omega
def lawNumber (s : List Int) : Int := if lawCell s 1 / 64 % 2 = 0 then (if lawCell s 2 < 0 then -lawCell s 2 else lawCell s 2) else numGo s s.length * numGo s s.length
inductive rNumberL : List PyData → Res → Prop
  | mk {s : List Int} (h : s.length ≤ 63) : rNumberL [.list (s.map .int)] (.ok (.dat (.int (lawNumber s))))
local macro_rules | `(tactic| wtm_at "R") => `(tactic| first
  | ((with_reducible apply rCell.mk) <;> first | (with_reducible assumption) | omega)
  | (constructor; all_goals try (wtm_at "sd")))
local macro_rules | `(tactic| wtm_at "nm") => `(tactic| first
  | ((with_reducible show Ev _ _ (.Name "script" _) _); exact nmF (by assumption) 0 (by rfl) rfl (by decide +kernel) (by decide +kernel) (by decide +kernel))
  | ((with_reducible show Ev _ _ (.Name "number" _) _); exact nmF (by assumption) 1 (by rfl) rfl (by decide +kernel) (by decide +kernel) (by decide +kernel))
  | ((with_reducible show Ev _ _ (.Name "cell" _) _); exact nmF (by assumption) 2 (by rfl) rfl (by decide +kernel) (by decide +kernel) (by decide +kernel)))
local macro_rules | `(tactic| wtm_at "own") => `(tactic| first
  | ((with_reducible show EvS _ _ (.Name "script" _) _ _); exact ownF (by assumption) 0 (by rfl) rfl (by decide +kernel) (by decide +kernel) (by decide +kernel))
  | ((with_reducible show EvS _ _ (.Name "number" _) _ _); exact ownF (by assumption) 1 (by rfl) rfl (by decide +kernel) (by decide +kernel) (by decide +kernel))
  | ((with_reducible show EvS _ _ (.Name "cell" _) _ _); exact ownF (by assumption) 2 (by rfl) rfl (by decide +kernel) (by decide +kernel) (by decide +kernel)))
local macro_rules | `(tactic| wtm_at "ownl") => `(tactic| first
  | ((with_reducible show EvL _ _ (.Name "script" _) _); exact ownlF (by assumption) 0 (by rfl) rfl (by decide +kernel) (by decide +kernel) (by decide +kernel))
  | ((with_reducible show EvL _ _ (.Name "number" _) _); exact ownlF (by assumption) 1 (by rfl) rfl (by decide +kernel) (by decide +kernel) (by decide +kernel))
  | ((with_reducible show EvL _ _ (.Name "cell" _) _); exact ownlF (by assumption) 2 (by rfl) rfl (by decide +kernel) (by decide +kernel) (by decide +kernel)))
local macro_rules | `(tactic| wtm_at "set") => `(tactic| first
  | ((with_reducible show S1 _ _ (.Assign [.Name "script" _] _ _) _); refine' setF ?st1 ?st2 0 ?st3 ?st4 ?ste ?st5; (case' st1 => assumption); (case' st2 => assumption); (case' st3 => rfl); (case' st4 => decide +kernel); (case' ste => wtm_at "ev"); (case' st5 => rfl))
  | ((with_reducible show S1 _ _ (.Assign [.Name "number" _] _ _) _); refine' setF ?st1 ?st2 1 ?st3 ?st4 ?ste ?st5; (case' st1 => assumption); (case' st2 => assumption); (case' st3 => rfl); (case' st4 => decide +kernel); (case' ste => wtm_at "ev"); (case' st5 => rfl))
  | ((with_reducible show S1 _ _ (.Assign [.Name "cell" _] _ _) _); refine' setF ?st1 ?st2 2 ?st3 ?st4 ?ste ?st5; (case' st1 => assumption); (case' st2 => assumption); (case' st3 => rfl); (case' st4 => decide +kernel); (case' ste => wtm_at "ev"); (case' st5 => rfl)))
local macro_rules | `(tactic| wtm_at "app") => `(tactic| first
  | ((with_reducible show S1 _ _ (.Expr (.Call (.Attribute (.Name "script" _) _ _) _ _ _) _) _); refine' appF ?ap1 0 ?ap2 ?ap3 ?ap4 ?ape ?aps ?ap5 ?ap6; (case' ap1 => assumption); (case' ap2 => rfl); (case' ap3 => rfl); (case' ap4 => decide +kernel); (case' ape => wtm_at "ev"); (case' aps => try (wtm_at "sz")); (case' ap5 => decide +kernel); (case' ap6 => decide +kernel))
  | ((with_reducible show S1 _ _ (.Expr (.Call (.Attribute (.Name "number" _) _ _) _ _ _) _) _); refine' appF ?ap1 1 ?ap2 ?ap3 ?ap4 ?ape ?aps ?ap5 ?ap6; (case' ap1 => assumption); (case' ap2 => rfl); (case' ap3 => rfl); (case' ap4 => decide +kernel); (case' ape => wtm_at "ev"); (case' aps => try (wtm_at "sz")); (case' ap5 => decide +kernel); (case' ap6 => decide +kernel))
  | ((with_reducible show S1 _ _ (.Expr (.Call (.Attribute (.Name "cell" _) _ _) _ _ _) _) _); refine' appF ?ap1 2 ?ap2 ?ap3 ?ap4 ?ape ?aps ?ap5 ?ap6; (case' ap1 => assumption); (case' ap2 => rfl); (case' ap3 => rfl); (case' ap4 => decide +kernel); (case' ape => wtm_at "ev"); (case' aps => try (wtm_at "sz")); (case' ap5 => decide +kernel); (case' ap6 => decide +kernel)))
local macro_rules | `(tactic| wtm_at "put") => `(tactic| first
  | ((with_reducible show S1 _ _ (.Assign [.Subscript (.Name "script" _) _ _] _ _) _); refine' putF ?pu1 0 ?pu2 ?pu3 ?pu4 ?pue ?pui ?pu5 ?pu6 ?pu7 ?pu8; (case' pu1 => assumption); (case' pu2 => rfl); (case' pu3 => rfl); (case' pu4 => decide +kernel); (case' pue => wtm_at "ev"); (case' pui => wtm_at "ev"); (case' pu5 => try (wtm_at "sd")); (case' pu6 => try (wtm_at "sd")); (case' pu7 => decide +kernel); (case' pu8 => decide +kernel))
  | ((with_reducible show S1 _ _ (.Assign [.Subscript (.Name "number" _) _ _] _ _) _); refine' putF ?pu1 1 ?pu2 ?pu3 ?pu4 ?pue ?pui ?pu5 ?pu6 ?pu7 ?pu8; (case' pu1 => assumption); (case' pu2 => rfl); (case' pu3 => rfl); (case' pu4 => decide +kernel); (case' pue => wtm_at "ev"); (case' pui => wtm_at "ev"); (case' pu5 => try (wtm_at "sd")); (case' pu6 => try (wtm_at "sd")); (case' pu7 => decide +kernel); (case' pu8 => decide +kernel))
  | ((with_reducible show S1 _ _ (.Assign [.Subscript (.Name "cell" _) _ _] _ _) _); refine' putF ?pu1 2 ?pu2 ?pu3 ?pu4 ?pue ?pui ?pu5 ?pu6 ?pu7 ?pu8; (case' pu1 => assumption); (case' pu2 => rfl); (case' pu3 => rfl); (case' pu4 => decide +kernel); (case' pue => wtm_at "ev"); (case' pui => wtm_at "ev"); (case' pu5 => try (wtm_at "sd")); (case' pu6 => try (wtm_at "sd")); (case' pu7 => decide +kernel); (case' pu8 => decide +kernel)))
local macro_rules | `(tactic| wtm_at "reto") => `(tactic| first
  | ((with_reducible show S1 _ _ (.Return (some (.Name "script" _)) _) _); exact retOF (by assumption) 0 (by rfl) rfl (by decide +kernel) (by decide +kernel) (by decide +kernel))
  | ((with_reducible show S1 _ _ (.Return (some (.Name "number" _)) _) _); exact retOF (by assumption) 1 (by rfl) rfl (by decide +kernel) (by decide +kernel) (by decide +kernel))
  | ((with_reducible show S1 _ _ (.Return (some (.Name "cell" _)) _) _); exact retOF (by assumption) 2 (by rfl) rfl (by decide +kernel) (by decide +kernel) (by decide +kernel)))
local macro_rules | `(tactic| wtm_at "tgt") => `(tactic| first
  | ((with_reducible show PG _ (.Name "script" _) _); exact tgF (by assumption) (by assumption) 0 (by rfl) (by decide +kernel))
  | ((with_reducible show PG _ (.Name "number" _) _); exact tgF (by assumption) (by assumption) 1 (by rfl) (by decide +kernel))
  | ((with_reducible show PG _ (.Name "cell" _) _); exact tgF (by assumption) (by assumption) 2 (by rfl) (by decide +kernel)))
theorem ok_number {f : Addr} {fd : FuncData} (F : Fun K "_law_number" "_law_number" s__law_number f fd) (hm : mg "_law_number" = some (.ref f)) (b : Binds K fd ["script"] []) (mab : mg "abs" = none) (Gc : Fn P w K mg base 1 "_law_cell" ["script", "k"] rCell) : Fn P w K mg base 2 "_law_number" ["script"] rNumberL := by
  refine fnF F hm b sc__law_number (fun ds r h => by cases h; rfl) fun X hX hT ds r h => ?_
  cases h with
  | @mk s hs =>
    unfold lawNumber
    by_cases hc : lawCell s 1 / 64 % 2 = 0
    · rw [if_pos hc]
      refine' sm_end (s1_if (v := true) ?c1 (fun _ => sm_end (s1_retE (absF hX ?a1 mab ?b1) rfl)) fun h => nomatch h)
      case' c1 =>
        refine' et_eq ?d1 (decide_eq_true hc)
        case' d1 => wtm_at "test"
      case' a1 => decide +kernel
      case' b1 => wtm_at "ev"
    · rw [if_neg hc]
      refine' sm_cons (s1_if (v := false) ?c2 (fun h => nomatch h) fun _ => sm_nil) ?_
      case' c2 =>
        refine' et_eq ?d2 (decide_eq_false hc)
        case' d2 => wtm_at "test"
      refine' sm_cons ?s3 ?_
      case' s3 => wtm_at "st"
      have h18 : (0 : Int) < 10 ^ (18 : Int).toNat := by decide
      have nat : ∀ i, i ≤ s.length → (numGo s i).natAbs < 2 ^ (60 * i + 3) := fun i hi => by
        obtain ⟨a, b⟩ := num_lt i hi
        have e : ((2 : Nat) ^ (60 * i + 3) : Nat) = ((2 : Int) ^ (60 * i + 3)).natAbs := by rw [Int.natAbs_pow]; rfl
        rw [e]
        generalize (2 : Int) ^ (60 * i + 3) = q at *
        omega
      refine' sm_cons (A1 := [.dat (.list (s.map .int)), .dat (.int (numGo s s.length)), .un]) ?s4 ?_
      case' s4 =>
        refine' s1_le (forL hX 2 s PyData.int (fun i => [.dat (.list (s.map .int)), .dat (.int (numGo s i)), .un]) ?i4 rfl ?g4 ?l4 (fun _ => rfl) (fun i hi => ?b4)) ?l4b
        case' i4 => wtm_at "iter"
        case' g4 => wtm_at "tgt"
        case' l4 => exact LeA.refl
        case' l4b => exact LeA.refl
        have cw : CMulW (numGo s i) 999999999999999989 := wide_mul (a := 60 * i + 3) (b := 60) (nat i (Nat.le_of_lt hi)) (by decide) (by omega) (by decide) (by omega)
        rw [num_succ hi]
        generalize numGo s i = n at *
        generalize s[i] = c at *
        refine' sm_le (sm_one (setF hX hT 1 (by rfl) ?q5 (ev_bin (ev_mulW ?a5 ev_int cw) ?b5 BinD.add) (by rfl))) ?l5
        case' q5 => decide +kernel
        case' a5 => wtm_at "ev"
        case' b5 => wtm_at "ev"
        case' l5 => exact LeA.cons LeC.refl (LeA.cons LeC.refl (LeA.cons LeC.un LeA.nil))
      have nn := nat s.length (Nat.le_refl _)
      refine' sm_end (s1_retE (ev_mulW ?a6 ?b6 (wide_mul nn nn (by omega) (by omega) (by omega))) rfl)
      case' a6 => wtm_at "ev"
      case' b6 => wtm_at "ev"
end
end W

namespace W
open PySem PySem.Spec PyProof.Rows L2 LR
theorem sm_front {g : Nat → Int} : ∀ n, sm (n + 1) g = g 0 + sm n fun i => g (i + 1)
  | 0 => by show sm 0 g + g 0 = g 0 + 0; show 0 + g 0 = _; omega
  | n + 1 => by
    show sm (n + 1) g + g (n + 1) = g 0 + (sm n (fun i => g (i + 1)) + g (n + 1))
    rw [sm_front n, Int.add_assoc]
theorem sum_sm : ∀ l : List Int, l.sum = sm l.length fun i => l.getD i 0
  | [] => rfl
  | x :: l => by
    rw [List.sum_cons, List.length_cons, sm_front, sum_sm l]
    rfl
theorem zip_dot {wd : Nat} {r o : List Int} (hr : r.length = wd) (ho : o.length = wd) : ((r.zip o).map fun z => z.1 * z.2).sum = dotV wd o r := by
  rw [sum_sm]
  have e : ((r.zip o).map fun z => z.1 * z.2).length = wd := by rw [List.length_map, List.length_zip]; omega
  rw [e]
  refine sm_congr fun i hi => ?_
  rw [List.getD_eq_getElem?_getD, List.getD_eq_getElem?_getD, List.getD_eq_getElem?_getD, List.getElem?_map, List.getElem?_eq_getElem (by rw [List.length_zip]; omega), List.getElem?_eq_getElem (by omega), List.getElem?_eq_getElem (by omega), List.getElem_zip]
  exact Int.mul_comm _ _
section
variable {P : Program} {w : World} {K : PySem.W.Frag} {mg : Str → Option Value} {base : Heap}
inductive rTells : List PyData → Res → Prop
  | shut {p : Int} {wd : Nat} {rows : List (List Int)} {goal z : List Int} (p0 : 0 < p) (p9 : p ≤ 9999) (hr : RowsOn p wd rows) (hg : RowOn p wd goal) (hz : RowOn p wd z) (h0 : ∀ q ∈ rows, dotV wd z q % p = 0) (h1 : dotV wd z goal % p = 1) (hw : wd ≤ 50) (hn : rows.length ≤ 50) : rTells [.int p, lT rows, tI goal, .tuple [.str "shut", tI z], .bool true] (.ok (.dat (.bool true)))
  | sum {p : Int} {wd : Nat} {rows : List (List Int)} {goal ws : List Int} (p1 : 1 < p) (p9 : p ≤ 9999) (hr : RowsOn p wd rows) (hg : RowOn p wd goal) (hz : RowOn p rows.length ws) (h0 : sumV p wd (rows.zip ws) = goal) (hw : wd ≤ 50) (hn : rows.length ≤ 50) : rTells [.int p, lT rows, tI goal, .tuple [.str "sum", tI ws], .bool false] (.ok (.dat (.bool true)))
local macro_rules | `(tactic| wtm_at "nm") => `(tactic| first
  | ((with_reducible show Ev _ _ (.Name "P" _) _); exact nmF (by assumption) 0 (by rfl) rfl (by decide +kernel) (by decide +kernel) (by decide +kernel))
  | ((with_reducible show Ev _ _ (.Name "rows" _) _); exact nmF (by assumption) 1 (by rfl) rfl (by decide +kernel) (by decide +kernel) (by decide +kernel))
  | ((with_reducible show Ev _ _ (.Name "goal" _) _); exact nmF (by assumption) 2 (by rfl) rfl (by decide +kernel) (by decide +kernel) (by decide +kernel))
  | ((with_reducible show Ev _ _ (.Name "told" _) _); exact nmF (by assumption) 3 (by rfl) rfl (by decide +kernel) (by decide +kernel) (by decide +kernel))
  | ((with_reducible show Ev _ _ (.Name "free" _) _); exact nmF (by assumption) 4 (by rfl) rfl (by decide +kernel) (by decide +kernel) (by decide +kernel))
  | ((with_reducible show Ev _ _ (.Name "marks" _) _); exact nmF (by assumption) 5 (by rfl) rfl (by decide +kernel) (by decide +kernel) (by decide +kernel))
  | ((with_reducible show Ev _ _ (.Name "total" _) _); exact nmF (by assumption) 6 (by rfl) rfl (by decide +kernel) (by decide +kernel) (by decide +kernel))
  | ((with_reducible show Ev _ _ (.Name "row" _) _); exact nmF (by assumption) 7 (by rfl) rfl (by decide +kernel) (by decide +kernel) (by decide +kernel))
  | ((with_reducible show Ev _ _ (.Name "c" _) _); exact nmF (by assumption) 8 (by rfl) rfl (by decide +kernel) (by decide +kernel) (by decide +kernel))
  | ((with_reducible show Ev _ _ (.Name "x" _) _); exact nmF (by assumption) 9 (by rfl) rfl (by decide +kernel) (by decide +kernel) (by decide +kernel))
  | ((with_reducible show Ev _ _ (.Name "y" _) _); exact nmF (by assumption) 10 (by rfl) rfl (by decide +kernel) (by decide +kernel) (by decide +kernel)))
local macro_rules | `(tactic| wtm_at "own") => `(tactic| first
  | ((with_reducible show EvS _ _ (.Name "P" _) _ _); exact ownF (by assumption) 0 (by rfl) rfl (by decide +kernel) (by decide +kernel) (by decide +kernel))
  | ((with_reducible show EvS _ _ (.Name "rows" _) _ _); exact ownF (by assumption) 1 (by rfl) rfl (by decide +kernel) (by decide +kernel) (by decide +kernel))
  | ((with_reducible show EvS _ _ (.Name "goal" _) _ _); exact ownF (by assumption) 2 (by rfl) rfl (by decide +kernel) (by decide +kernel) (by decide +kernel))
  | ((with_reducible show EvS _ _ (.Name "told" _) _ _); exact ownF (by assumption) 3 (by rfl) rfl (by decide +kernel) (by decide +kernel) (by decide +kernel))
  | ((with_reducible show EvS _ _ (.Name "free" _) _ _); exact ownF (by assumption) 4 (by rfl) rfl (by decide +kernel) (by decide +kernel) (by decide +kernel))
  | ((with_reducible show EvS _ _ (.Name "marks" _) _ _); exact ownF (by assumption) 5 (by rfl) rfl (by decide +kernel) (by decide +kernel) (by decide +kernel))
  | ((with_reducible show EvS _ _ (.Name "total" _) _ _); exact ownF (by assumption) 6 (by rfl) rfl (by decide +kernel) (by decide +kernel) (by decide +kernel))
  | ((with_reducible show EvS _ _ (.Name "row" _) _ _); exact ownF (by assumption) 7 (by rfl) rfl (by decide +kernel) (by decide +kernel) (by decide +kernel))
  | ((with_reducible show EvS _ _ (.Name "c" _) _ _); exact ownF (by assumption) 8 (by rfl) rfl (by decide +kernel) (by decide +kernel) (by decide +kernel))
  | ((with_reducible show EvS _ _ (.Name "x" _) _ _); exact ownF (by assumption) 9 (by rfl) rfl (by decide +kernel) (by decide +kernel) (by decide +kernel))
  | ((with_reducible show EvS _ _ (.Name "y" _) _ _); exact ownF (by assumption) 10 (by rfl) rfl (by decide +kernel) (by decide +kernel) (by decide +kernel)))
local macro_rules | `(tactic| wtm_at "ownl") => `(tactic| first
  | ((with_reducible show EvL _ _ (.Name "P" _) _); exact ownlF (by assumption) 0 (by rfl) rfl (by decide +kernel) (by decide +kernel) (by decide +kernel))
  | ((with_reducible show EvL _ _ (.Name "rows" _) _); exact ownlF (by assumption) 1 (by rfl) rfl (by decide +kernel) (by decide +kernel) (by decide +kernel))
  | ((with_reducible show EvL _ _ (.Name "goal" _) _); exact ownlF (by assumption) 2 (by rfl) rfl (by decide +kernel) (by decide +kernel) (by decide +kernel))
  | ((with_reducible show EvL _ _ (.Name "told" _) _); exact ownlF (by assumption) 3 (by rfl) rfl (by decide +kernel) (by decide +kernel) (by decide +kernel))
  | ((with_reducible show EvL _ _ (.Name "free" _) _); exact ownlF (by assumption) 4 (by rfl) rfl (by decide +kernel) (by decide +kernel) (by decide +kernel))
  | ((with_reducible show EvL _ _ (.Name "marks" _) _); exact ownlF (by assumption) 5 (by rfl) rfl (by decide +kernel) (by decide +kernel) (by decide +kernel))
  | ((with_reducible show EvL _ _ (.Name "total" _) _); exact ownlF (by assumption) 6 (by rfl) rfl (by decide +kernel) (by decide +kernel) (by decide +kernel))
  | ((with_reducible show EvL _ _ (.Name "row" _) _); exact ownlF (by assumption) 7 (by rfl) rfl (by decide +kernel) (by decide +kernel) (by decide +kernel))
  | ((with_reducible show EvL _ _ (.Name "c" _) _); exact ownlF (by assumption) 8 (by rfl) rfl (by decide +kernel) (by decide +kernel) (by decide +kernel))
  | ((with_reducible show EvL _ _ (.Name "x" _) _); exact ownlF (by assumption) 9 (by rfl) rfl (by decide +kernel) (by decide +kernel) (by decide +kernel))
  | ((with_reducible show EvL _ _ (.Name "y" _) _); exact ownlF (by assumption) 10 (by rfl) rfl (by decide +kernel) (by decide +kernel) (by decide +kernel)))
local macro_rules | `(tactic| wtm_at "set") => `(tactic| first
  | ((with_reducible show S1 _ _ (.Assign [.Name "P" _] _ _) _); refine' setF ?st1 ?st2 0 ?st3 ?st4 ?ste ?st5; (case' st1 => assumption); (case' st2 => assumption); (case' st3 => rfl); (case' st4 => decide +kernel); (case' ste => wtm_at "ev"); (case' st5 => rfl))
  | ((with_reducible show S1 _ _ (.Assign [.Name "rows" _] _ _) _); refine' setF ?st1 ?st2 1 ?st3 ?st4 ?ste ?st5; (case' st1 => assumption); (case' st2 => assumption); (case' st3 => rfl); (case' st4 => decide +kernel); (case' ste => wtm_at "ev"); (case' st5 => rfl))
  | ((with_reducible show S1 _ _ (.Assign [.Name "goal" _] _ _) _); refine' setF ?st1 ?st2 2 ?st3 ?st4 ?ste ?st5; (case' st1 => assumption); (case' st2 => assumption); (case' st3 => rfl); (case' st4 => decide +kernel); (case' ste => wtm_at "ev"); (case' st5 => rfl))
  | ((with_reducible show S1 _ _ (.Assign [.Name "told" _] _ _) _); refine' setF ?st1 ?st2 3 ?st3 ?st4 ?ste ?st5; (case' st1 => assumption); (case' st2 => assumption); (case' st3 => rfl); (case' st4 => decide +kernel); (case' ste => wtm_at "ev"); (case' st5 => rfl))
  | ((with_reducible show S1 _ _ (.Assign [.Name "free" _] _ _) _); refine' setF ?st1 ?st2 4 ?st3 ?st4 ?ste ?st5; (case' st1 => assumption); (case' st2 => assumption); (case' st3 => rfl); (case' st4 => decide +kernel); (case' ste => wtm_at "ev"); (case' st5 => rfl))
  | ((with_reducible show S1 _ _ (.Assign [.Name "marks" _] _ _) _); refine' setF ?st1 ?st2 5 ?st3 ?st4 ?ste ?st5; (case' st1 => assumption); (case' st2 => assumption); (case' st3 => rfl); (case' st4 => decide +kernel); (case' ste => wtm_at "ev"); (case' st5 => rfl))
  | ((with_reducible show S1 _ _ (.Assign [.Name "total" _] _ _) _); refine' setF ?st1 ?st2 6 ?st3 ?st4 ?ste ?st5; (case' st1 => assumption); (case' st2 => assumption); (case' st3 => rfl); (case' st4 => decide +kernel); (case' ste => wtm_at "ev"); (case' st5 => rfl))
  | ((with_reducible show S1 _ _ (.Assign [.Name "row" _] _ _) _); refine' setF ?st1 ?st2 7 ?st3 ?st4 ?ste ?st5; (case' st1 => assumption); (case' st2 => assumption); (case' st3 => rfl); (case' st4 => decide +kernel); (case' ste => wtm_at "ev"); (case' st5 => rfl))
  | ((with_reducible show S1 _ _ (.Assign [.Name "c" _] _ _) _); refine' setF ?st1 ?st2 8 ?st3 ?st4 ?ste ?st5; (case' st1 => assumption); (case' st2 => assumption); (case' st3 => rfl); (case' st4 => decide +kernel); (case' ste => wtm_at "ev"); (case' st5 => rfl)))
local macro_rules | `(tactic| wtm_at "app") => `(tactic| first
  | ((with_reducible show S1 _ _ (.Expr (.Call (.Attribute (.Name "P" _) _ _) _ _ _) _) _); refine' appF ?ap1 0 ?ap2 ?ap3 ?ap4 ?ape ?aps ?ap5 ?ap6; (case' ap1 => assumption); (case' ap2 => rfl); (case' ap3 => rfl); (case' ap4 => decide +kernel); (case' ape => wtm_at "ev"); (case' aps => try (wtm_at "sz")); (case' ap5 => decide +kernel); (case' ap6 => decide +kernel))
  | ((with_reducible show S1 _ _ (.Expr (.Call (.Attribute (.Name "rows" _) _ _) _ _ _) _) _); refine' appF ?ap1 1 ?ap2 ?ap3 ?ap4 ?ape ?aps ?ap5 ?ap6; (case' ap1 => assumption); (case' ap2 => rfl); (case' ap3 => rfl); (case' ap4 => decide +kernel); (case' ape => wtm_at "ev"); (case' aps => try (wtm_at "sz")); (case' ap5 => decide +kernel); (case' ap6 => decide +kernel))
  | ((with_reducible show S1 _ _ (.Expr (.Call (.Attribute (.Name "goal" _) _ _) _ _ _) _) _); refine' appF ?ap1 2 ?ap2 ?ap3 ?ap4 ?ape ?aps ?ap5 ?ap6; (case' ap1 => assumption); (case' ap2 => rfl); (case' ap3 => rfl); (case' ap4 => decide +kernel); (case' ape => wtm_at "ev"); (case' aps => try (wtm_at "sz")); (case' ap5 => decide +kernel); (case' ap6 => decide +kernel))
  | ((with_reducible show S1 _ _ (.Expr (.Call (.Attribute (.Name "told" _) _ _) _ _ _) _) _); refine' appF ?ap1 3 ?ap2 ?ap3 ?ap4 ?ape ?aps ?ap5 ?ap6; (case' ap1 => assumption); (case' ap2 => rfl); (case' ap3 => rfl); (case' ap4 => decide +kernel); (case' ape => wtm_at "ev"); (case' aps => try (wtm_at "sz")); (case' ap5 => decide +kernel); (case' ap6 => decide +kernel))
  | ((with_reducible show S1 _ _ (.Expr (.Call (.Attribute (.Name "free" _) _ _) _ _ _) _) _); refine' appF ?ap1 4 ?ap2 ?ap3 ?ap4 ?ape ?aps ?ap5 ?ap6; (case' ap1 => assumption); (case' ap2 => rfl); (case' ap3 => rfl); (case' ap4 => decide +kernel); (case' ape => wtm_at "ev"); (case' aps => try (wtm_at "sz")); (case' ap5 => decide +kernel); (case' ap6 => decide +kernel))
  | ((with_reducible show S1 _ _ (.Expr (.Call (.Attribute (.Name "marks" _) _ _) _ _ _) _) _); refine' appF ?ap1 5 ?ap2 ?ap3 ?ap4 ?ape ?aps ?ap5 ?ap6; (case' ap1 => assumption); (case' ap2 => rfl); (case' ap3 => rfl); (case' ap4 => decide +kernel); (case' ape => wtm_at "ev"); (case' aps => try (wtm_at "sz")); (case' ap5 => decide +kernel); (case' ap6 => decide +kernel))
  | ((with_reducible show S1 _ _ (.Expr (.Call (.Attribute (.Name "total" _) _ _) _ _ _) _) _); refine' appF ?ap1 6 ?ap2 ?ap3 ?ap4 ?ape ?aps ?ap5 ?ap6; (case' ap1 => assumption); (case' ap2 => rfl); (case' ap3 => rfl); (case' ap4 => decide +kernel); (case' ape => wtm_at "ev"); (case' aps => try (wtm_at "sz")); (case' ap5 => decide +kernel); (case' ap6 => decide +kernel))
  | ((with_reducible show S1 _ _ (.Expr (.Call (.Attribute (.Name "row" _) _ _) _ _ _) _) _); refine' appF ?ap1 7 ?ap2 ?ap3 ?ap4 ?ape ?aps ?ap5 ?ap6; (case' ap1 => assumption); (case' ap2 => rfl); (case' ap3 => rfl); (case' ap4 => decide +kernel); (case' ape => wtm_at "ev"); (case' aps => try (wtm_at "sz")); (case' ap5 => decide +kernel); (case' ap6 => decide +kernel))
  | ((with_reducible show S1 _ _ (.Expr (.Call (.Attribute (.Name "c" _) _ _) _ _ _) _) _); refine' appF ?ap1 8 ?ap2 ?ap3 ?ap4 ?ape ?aps ?ap5 ?ap6; (case' ap1 => assumption); (case' ap2 => rfl); (case' ap3 => rfl); (case' ap4 => decide +kernel); (case' ape => wtm_at "ev"); (case' aps => try (wtm_at "sz")); (case' ap5 => decide +kernel); (case' ap6 => decide +kernel)))
local macro_rules | `(tactic| wtm_at "put") => `(tactic| first
  | ((with_reducible show S1 _ _ (.Assign [.Subscript (.Name "P" _) _ _] _ _) _); refine' putF ?pu1 0 ?pu2 ?pu3 ?pu4 ?pue ?pui ?pu5 ?pu6 ?pu7 ?pu8; (case' pu1 => assumption); (case' pu2 => rfl); (case' pu3 => rfl); (case' pu4 => decide +kernel); (case' pue => wtm_at "ev"); (case' pui => wtm_at "ev"); (case' pu5 => try (wtm_at "sd")); (case' pu6 => try (wtm_at "sd")); (case' pu7 => decide +kernel); (case' pu8 => decide +kernel))
  | ((with_reducible show S1 _ _ (.Assign [.Subscript (.Name "rows" _) _ _] _ _) _); refine' putF ?pu1 1 ?pu2 ?pu3 ?pu4 ?pue ?pui ?pu5 ?pu6 ?pu7 ?pu8; (case' pu1 => assumption); (case' pu2 => rfl); (case' pu3 => rfl); (case' pu4 => decide +kernel); (case' pue => wtm_at "ev"); (case' pui => wtm_at "ev"); (case' pu5 => try (wtm_at "sd")); (case' pu6 => try (wtm_at "sd")); (case' pu7 => decide +kernel); (case' pu8 => decide +kernel))
  | ((with_reducible show S1 _ _ (.Assign [.Subscript (.Name "goal" _) _ _] _ _) _); refine' putF ?pu1 2 ?pu2 ?pu3 ?pu4 ?pue ?pui ?pu5 ?pu6 ?pu7 ?pu8; (case' pu1 => assumption); (case' pu2 => rfl); (case' pu3 => rfl); (case' pu4 => decide +kernel); (case' pue => wtm_at "ev"); (case' pui => wtm_at "ev"); (case' pu5 => try (wtm_at "sd")); (case' pu6 => try (wtm_at "sd")); (case' pu7 => decide +kernel); (case' pu8 => decide +kernel))
  | ((with_reducible show S1 _ _ (.Assign [.Subscript (.Name "told" _) _ _] _ _) _); refine' putF ?pu1 3 ?pu2 ?pu3 ?pu4 ?pue ?pui ?pu5 ?pu6 ?pu7 ?pu8; (case' pu1 => assumption); (case' pu2 => rfl); (case' pu3 => rfl); (case' pu4 => decide +kernel); (case' pue => wtm_at "ev"); (case' pui => wtm_at "ev"); (case' pu5 => try (wtm_at "sd")); (case' pu6 => try (wtm_at "sd")); (case' pu7 => decide +kernel); (case' pu8 => decide +kernel))
  | ((with_reducible show S1 _ _ (.Assign [.Subscript (.Name "free" _) _ _] _ _) _); refine' putF ?pu1 4 ?pu2 ?pu3 ?pu4 ?pue ?pui ?pu5 ?pu6 ?pu7 ?pu8; (case' pu1 => assumption); (case' pu2 => rfl); (case' pu3 => rfl); (case' pu4 => decide +kernel); (case' pue => wtm_at "ev"); (case' pui => wtm_at "ev"); (case' pu5 => try (wtm_at "sd")); (case' pu6 => try (wtm_at "sd")); (case' pu7 => decide +kernel); (case' pu8 => decide +kernel))
  | ((with_reducible show S1 _ _ (.Assign [.Subscript (.Name "marks" _) _ _] _ _) _); refine' putF ?pu1 5 ?pu2 ?pu3 ?pu4 ?pue ?pui ?pu5 ?pu6 ?pu7 ?pu8; (case' pu1 => assumption); (case' pu2 => rfl); (case' pu3 => rfl); (case' pu4 => decide +kernel); (case' pue => wtm_at "ev"); (case' pui => wtm_at "ev"); (case' pu5 => try (wtm_at "sd")); (case' pu6 => try (wtm_at "sd")); (case' pu7 => decide +kernel); (case' pu8 => decide +kernel))
  | ((with_reducible show S1 _ _ (.Assign [.Subscript (.Name "total" _) _ _] _ _) _); refine' putF ?pu1 6 ?pu2 ?pu3 ?pu4 ?pue ?pui ?pu5 ?pu6 ?pu7 ?pu8; (case' pu1 => assumption); (case' pu2 => rfl); (case' pu3 => rfl); (case' pu4 => decide +kernel); (case' pue => wtm_at "ev"); (case' pui => wtm_at "ev"); (case' pu5 => try (wtm_at "sd")); (case' pu6 => try (wtm_at "sd")); (case' pu7 => decide +kernel); (case' pu8 => decide +kernel))
  | ((with_reducible show S1 _ _ (.Assign [.Subscript (.Name "row" _) _ _] _ _) _); refine' putF ?pu1 7 ?pu2 ?pu3 ?pu4 ?pue ?pui ?pu5 ?pu6 ?pu7 ?pu8; (case' pu1 => assumption); (case' pu2 => rfl); (case' pu3 => rfl); (case' pu4 => decide +kernel); (case' pue => wtm_at "ev"); (case' pui => wtm_at "ev"); (case' pu5 => try (wtm_at "sd")); (case' pu6 => try (wtm_at "sd")); (case' pu7 => decide +kernel); (case' pu8 => decide +kernel))
  | ((with_reducible show S1 _ _ (.Assign [.Subscript (.Name "c" _) _ _] _ _) _); refine' putF ?pu1 8 ?pu2 ?pu3 ?pu4 ?pue ?pui ?pu5 ?pu6 ?pu7 ?pu8; (case' pu1 => assumption); (case' pu2 => rfl); (case' pu3 => rfl); (case' pu4 => decide +kernel); (case' pue => wtm_at "ev"); (case' pui => wtm_at "ev"); (case' pu5 => try (wtm_at "sd")); (case' pu6 => try (wtm_at "sd")); (case' pu7 => decide +kernel); (case' pu8 => decide +kernel)))
local macro_rules | `(tactic| wtm_at "reto") => `(tactic| first
  | ((with_reducible show S1 _ _ (.Return (some (.Name "P" _)) _) _); exact retOF (by assumption) 0 (by rfl) rfl (by decide +kernel) (by decide +kernel) (by decide +kernel))
  | ((with_reducible show S1 _ _ (.Return (some (.Name "rows" _)) _) _); exact retOF (by assumption) 1 (by rfl) rfl (by decide +kernel) (by decide +kernel) (by decide +kernel))
  | ((with_reducible show S1 _ _ (.Return (some (.Name "goal" _)) _) _); exact retOF (by assumption) 2 (by rfl) rfl (by decide +kernel) (by decide +kernel) (by decide +kernel))
  | ((with_reducible show S1 _ _ (.Return (some (.Name "told" _)) _) _); exact retOF (by assumption) 3 (by rfl) rfl (by decide +kernel) (by decide +kernel) (by decide +kernel))
  | ((with_reducible show S1 _ _ (.Return (some (.Name "free" _)) _) _); exact retOF (by assumption) 4 (by rfl) rfl (by decide +kernel) (by decide +kernel) (by decide +kernel))
  | ((with_reducible show S1 _ _ (.Return (some (.Name "marks" _)) _) _); exact retOF (by assumption) 5 (by rfl) rfl (by decide +kernel) (by decide +kernel) (by decide +kernel))
  | ((with_reducible show S1 _ _ (.Return (some (.Name "total" _)) _) _); exact retOF (by assumption) 6 (by rfl) rfl (by decide +kernel) (by decide +kernel) (by decide +kernel))
  | ((with_reducible show S1 _ _ (.Return (some (.Name "row" _)) _) _); exact retOF (by assumption) 7 (by rfl) rfl (by decide +kernel) (by decide +kernel) (by decide +kernel))
  | ((with_reducible show S1 _ _ (.Return (some (.Name "c" _)) _) _); exact retOF (by assumption) 8 (by rfl) rfl (by decide +kernel) (by decide +kernel) (by decide +kernel)))
local macro_rules | `(tactic| wtm_at "tgt") => `(tactic| first
  | ((with_reducible show PG _ (.Name "P" _) _); exact tgF (by assumption) (by assumption) 0 (by rfl) (by decide +kernel))
  | ((with_reducible show PG _ (.Name "rows" _) _); exact tgF (by assumption) (by assumption) 1 (by rfl) (by decide +kernel))
  | ((with_reducible show PG _ (.Name "goal" _) _); exact tgF (by assumption) (by assumption) 2 (by rfl) (by decide +kernel))
  | ((with_reducible show PG _ (.Name "told" _) _); exact tgF (by assumption) (by assumption) 3 (by rfl) (by decide +kernel))
  | ((with_reducible show PG _ (.Name "free" _) _); exact tgF (by assumption) (by assumption) 4 (by rfl) (by decide +kernel))
  | ((with_reducible show PG _ (.Name "marks" _) _); exact tgF (by assumption) (by assumption) 5 (by rfl) (by decide +kernel))
  | ((with_reducible show PG _ (.Name "total" _) _); exact tgF (by assumption) (by assumption) 6 (by rfl) (by decide +kernel))
  | ((with_reducible show PG _ (.Name "row" _) _); exact tgF (by assumption) (by assumption) 7 (by rfl) (by decide +kernel))
  | ((with_reducible show PG _ (.Name "c" _) _); exact tgF (by assumption) (by assumption) 8 (by rfl) (by decide +kernel)))
theorem ok_tells {f : Addr} {fd : FuncData} (F : Fun K "_law_tells" "_law_tells" s__law_tells f fd) (hm : mg "_law_tells" = some (.ref f)) (b : Binds K fd ["P", "rows", "goal", "told", "free"] []) (mi : mg "isinstance" = none) (mt : mg "tuple" = none) (ml : mg "len" = none) (min_ : mg "int" = none) (ms : mg "sum" = none) (mz : mg "zip" = none) : Fn P w K mg base 1 "_law_tells" ["P", "rows", "goal", "told", "free"] rTells := by
  refine fnF F hm b sc__law_tells (fun ds r h => by cases h <;> rfl) fun X hX hT ds r h => ?_
  cases h with
  | @shut p wd rows goal z p0 p9 hr hg hz h0 h1 hw hn =>
    refine' sm_cons (s1_if (v := false) ?c1 (fun h => nomatch h) fun _ => sm_nil) ?_
    case' c1 =>
      refine' et_eq (ew_et (ew_or (v := false) (u := false) (et_not (v := true) ?a1) fun _ => ew_or (v := false) (u := false) ?b1 fun _ => ew_or1 (et_eq (et_cmpR (d1 := .str "shut") (d2 := .str "shut") ?d1 (ev_atD (k := true) (ds := [.str "sum", .str "shut"]) (i := 1) ?e1 ?f1 (.lit rfl) (fun _ _ => rfl)) (cmpR_D .neS)) ?g1))) rfl
      case' a1 => wtm_at "test"
      case' b1 => exact et_eq (by wtm_at "test") rfl
      case' d1 => exact ev_atD (evs_dat (by wtm_at "ev") SeqD.tup) ev_int (.lit rfl) (fun _ _ => rfl)
      case' e1 => exact evs_new (ev_lst (ea_cons ev_str (ea_cons ev_str ea_nil)) (by rw [sizeLine_eq]; show 2 ≤ 16777216; decide))
      case' f1 => exact ev_eq (intBF hX (v := true) (by decide +kernel) min_ (by wtm_at "ev")) rfl
      case g1 => decide +kernel
    refine' sm_cons (s1_if (v := false) ?c2 (fun h => nomatch h) fun _ => sm_nil) ?_
    case' c2 =>
      refine' et_eq (ew_et (ew_or (v := false) (u := false) (et_not (v := true) ?a2) fun _ => ew_or1 (et_eq (et_cmpR (d1 := .int (z.map PyData.int).length) (d2 := .int (goal.map PyData.int).length) ?b2 (ev_atD (k := true) (ds := [.int (rows.map tI).length, .int (goal.map PyData.int).length]) (i := 1) ?e2 ?f2 (.lit rfl) (fun _ _ => rfl)) (cmpR_D .neI)) ?g2))) rfl
      case' a2 => exact et_ev (isiF hX (T := "tuple") (d := tI z) (by decide +kernel) mi (ev_atD (evs_dat (by wtm_at "ev") SeqD.tup) ev_int (.lit rfl) (fun _ _ => rfl)) (by decide +kernel) mt (by decide +kernel) (by dsimp only [tyD]; show _ = some true; decide +kernel) (by decide) (by decide))
      case' b2 => exact lenF hX (by decide +kernel) ml (evs_dat (d := tI z) (ev_atD (evs_dat (by wtm_at "ev") SeqD.tup) ev_int (.lit rfl) (fun _ _ => rfl)) SeqD.tup)
      case' e2 => exact evs_new (ev_lst (ea_cons (by wtm_at "ev") (ea_cons (by wtm_at "ev") ea_nil)) (by rw [sizeLine_eq]; show 2 ≤ 16777216; decide))
      case' f2 => exact ev_eq (intBF hX (v := true) (by decide +kernel) min_ (by wtm_at "ev")) rfl
      case g2 => rw [List.length_map, List.length_map, hz.1, hg.1]; simp
    have lg := hg.1
    have lz := hz.1
    refine' sm_end (s1_if (v := true) ?c3 (fun _ => ?t3) fun h => nomatch h)
    case' c3 => wtm_at "test"
    case' t3 =>
      have hall : ∀ q ∈ rows ++ [goal], RowOn p wd q := fun q hq => by
        rcases List.mem_append.mp hq with h | h
        · exact hr q h
        · rw [List.mem_singleton.mp h]; exact hg
      refine' sm_cons (A1 := [.dat (.int p), .dat (lT rows), .dat (tI goal), .dat (.tuple [.str "shut", tI z]), .dat (.bool true), .own (.lst ((rows ++ [goal]).map fun q => .int (dotV wd z q % p))), .un, .un, .un, .un, .un]) ?s4 ?_
      case' s4 =>
        refine' setLcF hX 5 7 (rows ++ [goal]) tI (fun q => .int (dotV wd z q % p)) ?i4 ?r4 ?ok4 ?n4 ?x4 ?z4 ?j4 (fun Y hY q hq => ?e4) ?yn4 ?yl4 ?yj4 ?k4 ?l4 ?a4
        case' i4 => exact ei_dat (ev_frz (ev_catS (ds := rows.map tI) (es := [tI goal]) (evs_dat (by wtm_at "ev") SeqD.lst) (evs_new (ev_lst (ea_cons (by wtm_at "ev") ea_nil) (by rw [sizeLine_eq]; show 1 ≤ 16777216; decide))) (by rw [List.length_map, sizeLine_eq]; show rows.length + 1 ≤ 16777216; omega))) SeqD.lst
        case' r4 => rw [List.map_append]; rfl
        case' ok4 => decide +kernel
        case' n4 => rfl
        case' x4 => decide +kernel
        case z4 => rw [List.length_append, sizeLine_eq]; show rows.length + 1 < 16777216; omega
        case' j4 => rfl
        case' yn4 => rfl
        case' yl4 => decide +kernel
        case' yj4 => rfl
        case' k4 => decide +kernel
        case' l4 => decide +kernel
        case' a4 => decide +kernel
        case' e4 =>
          have qo := hall q hq
          refine' ev_bin (d1 := .int (dotV wd z q)) (ev_eq (sumF hY (ns := (q.zip z).map fun y => y.1 * y.2) ?a5 ms (evs_eq (evs_new (lcZ hY 9 10 (q.zip z) (fun y => .int y.1) (fun y => .int y.2) (fun y => .int (y.1 * y.2)) ?i5 rfl ?ok5 ?n5 ?m5 ?x5 ?w5 ?ij5 ?z5 ?j5 ?k5 fun Z hZ y hy => ?e5)) ?b5)) ?c5) ?d5 (BinD.mod p0)
          case' a5 => decide +kernel
          case' i5 =>
            refine' zipBF hY false false (enc1 := PyData.int) (enc2 := PyData.int) (xs := q) (ys := z) ?v1 mz ?v2 ?v3
            case' v1 => decide +kernel
            case' v2 => wtm_at "ev"
            case' v3 => exact ev_atD (evs_dat (by wtm_at "ev") SeqD.tup) ev_int (.lit rfl) (fun _ _ => rfl)
          case' ok5 => decide +kernel
          case' n5 => rfl
          case' m5 => rfl
          case' x5 => decide +kernel
          case' w5 => decide +kernel
          case' ij5 => decide
          case z5 => rw [List.length_zip, sizeLine_eq, qo.1]; omega
          case' j5 => rfl
          case' k5 => rfl
          case b5 => rw [List.map_map]; rfl
          case c5 => rw [zip_dot qo.1 lz]
          case' d5 => wtm_at "ev"
          case' e5 =>
            have y1 := qo.2 _ (List.of_mem_zip (show (y.1, y.2) ∈ q.zip z from hy)).1
            have cm : CMul y.1 y.2 := .inl (by omega)
            wtm_at "ev"
      have em : (rows ++ [goal]).map (fun q => PyData.int (dotV wd z q % p)) = (List.replicate rows.length (0 : Int) ++ [1]).map .int := by
        rw [List.map_append, List.map_append, List.map_cons, List.map_cons, h1]
        congr 1
        refine List.ext_getElem? fun i => ?_
        rcases Nat.lt_or_ge i rows.length with hi | hi
        · rw [List.getElem?_map, List.getElem?_map, List.getElem?_eq_getElem hi, List.getElem?_replicate, if_pos hi]
          show some (PyData.int _) = some (PyData.int _)
          rw [h0 _ (List.getElem_mem hi)]
        · rw [List.getElem?_eq_none (by simpa using hi), List.getElem?_eq_none (by simpa using hi)]
      rw [em]
      refine' sm_frz 5 rfl ?_
      refine' sm_end (s1_retE (ev_cmpR (d1 := .list ((List.replicate rows.length (0 : Int) ++ [1]).map .int)) (d2 := .list ((List.replicate rows.length (0 : Int) ++ [1]).map .int)) ?a6 (ev_frz (ds := (List.replicate rows.length (0 : Int) ++ [1]).map .int) (ev_eq (ev_catL (ds := (List.replicate rows.length (0 : Int)).map .int) (es := [.int 1]) (evl_new (ev_eq ?b6 ?c6)) (evl_new ?d6) ?e6) ?f6)) (cmpEq hX (x := List.replicate rows.length (0 : Int) ++ [1]) (y := List.replicate rows.length (0 : Int) ++ [1]) encInt.lst (by decide))) ?g6)
      case' a6 => wtm_at "ev"
      case' b6 => wtm_at "ev"
      case c6 => rw [List.length_map, Int.toNat_natCast]
      case' d6 => wtm_at "evl"
      case e6 => rw [List.length_map, List.length_replicate, sizeLine_eq]; show rows.length + 1 ≤ 16777216; omega
      case f6 => rw [List.map_append]; rfl
      case g6 => simp
  | @sum p wd rows goal ws p1 p9 hr hg hz h0 hw hn =>
    have p0 : 0 < p := by omega
    refine' sm_cons (s1_if (v := false) ?kc1 (fun h => nomatch h) fun _ => sm_nil) ?_
    case' kc1 =>
      refine' et_eq (ew_et (ew_or (v := false) (u := false) (et_not (v := true) ?ka1) fun _ => ew_or (v := false) (u := false) ?kb1 fun _ => ew_or1 (et_eq (et_cmpR (d1 := .str "sum") (d2 := .str "sum") ?kd1 (ev_atD (k := true) (ds := [.str "sum", .str "shut"]) (i := 0) ?ke1 ?kf1 (.lit rfl) (fun _ _ => rfl)) (cmpR_D .neS)) ?kg1))) rfl
      case' ka1 => wtm_at "test"
      case' kb1 => exact et_eq (by wtm_at "test") rfl
      case' kd1 => exact ev_atD (evs_dat (by wtm_at "ev") SeqD.tup) ev_int (.lit rfl) (fun _ _ => rfl)
      case' ke1 => exact evs_new (ev_lst (ea_cons ev_str (ea_cons ev_str ea_nil)) (by rw [sizeLine_eq]; show 2 ≤ 16777216; decide))
      case' kf1 => exact ev_eq (intBF hX (v := false) (by decide +kernel) min_ (by wtm_at "ev")) rfl
      case kg1 => decide +kernel
    refine' sm_cons (s1_if (v := false) ?kc2 (fun h => nomatch h) fun _ => sm_nil) ?_
    case' kc2 =>
      refine' et_eq (ew_et (ew_or (v := false) (u := false) (et_not (v := true) ?ka2) fun _ => ew_or1 (et_eq (et_cmpR (d1 := .int (ws.map PyData.int).length) (d2 := .int (rows.map tI).length) ?kb2 (ev_atD (k := true) (ds := [.int (rows.map tI).length, .int (goal.map PyData.int).length]) (i := 0) ?ke2 ?kf2 (.lit rfl) (fun _ _ => rfl)) (cmpR_D .neI)) ?kg2))) rfl
      case' ka2 => exact et_ev (isiF hX (T := "tuple") (d := tI ws) (by decide +kernel) mi (ev_atD (evs_dat (by wtm_at "ev") SeqD.tup) ev_int (.lit rfl) (fun _ _ => rfl)) (by decide +kernel) mt (by decide +kernel) (by dsimp only [tyD]; show _ = some true; decide +kernel) (by decide) (by decide))
      case' kb2 => exact lenF hX (by decide +kernel) ml (evs_dat (d := tI ws) (ev_atD (evs_dat (by wtm_at "ev") SeqD.tup) ev_int (.lit rfl) (fun _ _ => rfl)) SeqD.tup)
      case' ke2 => exact evs_new (ev_lst (ea_cons (by wtm_at "ev") (ea_cons (by wtm_at "ev") ea_nil)) (by rw [sizeLine_eq]; show 2 ≤ 16777216; decide))
      case' kf2 => exact ev_eq (intBF hX (v := false) (by decide +kernel) min_ (by wtm_at "ev")) rfl
      case kg2 => rw [List.length_map, List.length_map, hz.1]; simp
    refine' sm_cons (s1_if (v := false) ?kc3 (fun h => nomatch h) fun _ => sm_nil) ?_
    case' kc3 => wtm_at "test"
    have lg := hg.1
    refine' sm_cons (A1 := [.dat (.int p), .dat (lT rows), .dat (tI goal), .dat (.tuple [.str "sum", tI ws]), .dat (.bool false), .un, .dat (tI (zeroV wd)), .un, .un, .un, .un]) ?ks4 ?_
    case' ks4 =>
      refine' setF hX hT 6 (by rfl) ?kq4 (ev_eq ?ka4 ?kb4) (by rfl)
      case' kq4 => decide +kernel
      case' ka4 => wtm_at "ev"
      case kb4 => rw [List.length_map, lg, Int.toNat_natCast]
    refine' sm_cons (A1 := [.dat (.int p), .dat (lT rows), .dat (tI goal), .dat (.tuple [.str "sum", tI ws]), .dat (.bool false), .un, .dat (tI goal), .un, .un, .un, .un]) ?ks5 ?_
    case' ks5 =>
      refine' s1_le (forZ hX 7 8 (rows.zip ws) (fun z => tI z.1) (fun z => .int z.2) (fun i => [.dat (.int p), .dat (lT rows), .dat (tI goal), .dat (.tuple [.str "sum", tI ws]), .dat (.bool false), .un, .dat (tI (sumV p wd ((rows.zip ws).take i))), .un, .un, .un, .un]) ?ki5 rfl ?kg5 ?kh5 ?kl5 (fun _ => rfl) (fun _ => rfl) (fun i hi => ?kb5)) ?km5
      case' ki5 =>
        refine' zipBF hX true false (enc1 := tI) (enc2 := PyData.int) ?kv1 mz ?kv2 ?kv3
        case' kv1 => decide +kernel
        case' kv2 => wtm_at "ev"
        case' kv3 => exact ev_atD (evs_dat (by wtm_at "ev") SeqD.tup) ev_int (.lit rfl) (fun _ _ => rfl)
      case' kg5 => wtm_at "tgt"
      case' kh5 => wtm_at "tgt"
      case' kl5 => exact LeA.refl
      case' km5 =>
        rw [List.take_length, h0]
        exact LeA.refl
      case' kb5 =>
        have zm := List.getElem_mem hi
        have z1 := hr _ (List.of_mem_zip (show ((rows.zip ws)[i].1, (rows.zip ws)[i].2) ∈ rows.zip ws from zm)).1
        have z2 := hz.2 _ (List.of_mem_zip (show ((rows.zip ws)[i].1, (rows.zip ws)[i].2) ∈ rows.zip ws from zm)).2
        have so : RowOn p wd (sumV p wd ((rows.zip ws).take i)) := Sp.on p1 (fun r h => (hr r h).1) (sumV_sp (S := (· ∈ rows)) (ps := (rows.zip ws).take i) .zero fun z hz => (List.of_mem_zip (show (z.1, z.2) ∈ rows.zip ws from List.mem_of_mem_take hz)).1)
        rw [sumV_snoc hi]
        generalize sumV p wd ((rows.zip ws).take i) = tot at *
        generalize (rows.zip ws)[i] = zz at *
        obtain ⟨row, c⟩ := zz
        simp only at z1 z2 ⊢
        refine' sm_le (sm_one (setF hX hT 6 (by rfl) ?kq6 (tupleF hX (ds := ((tot.zip row).map fun q => (q.1 + c * q.2) % p).map .int) ?ka6 mt (evs_new (ev_eq (lcZ hX 9 10 (tot.zip row) (fun y => .int y.1) (fun y => .int y.2) (fun y => .int ((y.1 + c * y.2) % p)) ?ki6 rfl ?kok6 ?kn6 ?km6 ?kx6 ?kw6 ?kij6 ?kz6 ?kj6 ?kk6 fun Z hZ y hy => ?ke6) ?kb6))) (by rfl))) ?kl6
        case' kq6 => decide +kernel
        case' ka6 => decide +kernel
        case' ki6 =>
          refine' zipBF hX false false (enc1 := PyData.int) (enc2 := PyData.int) (xs := tot) (ys := row) ?ku1 mz ?ku2 ?ku3
          case' ku1 => decide +kernel
          case' ku2 => wtm_at "ev"
          case' ku3 => wtm_at "ev"
        case' kok6 => decide +kernel
        case' kn6 => rfl
        case' km6 => rfl
        case' kx6 => decide +kernel
        case' kw6 => decide +kernel
        case' kij6 => decide
        case kz6 => rw [List.length_zip, sizeLine_eq, so.1]; omega
        case' kj6 => rfl
        case' kk6 => rfl
        case kb6 => rw [List.map_map]; rfl
        case' ke6 =>
          have cm : CMul c y.2 := .inl (by omega)
          wtm_at "ev"
        case' kl6 => exact LeA.cons LeC.refl (LeA.cons LeC.refl (LeA.cons LeC.refl (LeA.cons LeC.refl (LeA.cons LeC.refl (LeA.cons LeC.refl (LeA.cons LeC.refl (LeA.cons LeC.un (LeA.cons LeC.un LeA.refl))))))))
    refine' sm_end (s1_retE ?ke7 ?kf7)
    case' ke7 => wtm_at "ev"
    case kf7 => simp
end
end W

namespace W
open PySem PySem.Spec PyProof.Rows L2 LR
def rowD (ds : List Int) (wd k : Nat) : List Int := (ds.drop (k * wd)).take wd
section
variable {P : Program} {w : World} {K : PySem.W.Frag} {mg : Str → Option Value} {base : Heap}
inductive rLaw : List PyData → Res → Prop
  | mk {s : List Int} (h : s.length ≤ 63) : rLaw [.list (s.map .int)] (.ok (.dat (.bool true)))
local macro_rules | `(tactic| wtm_at "R") => `(tactic| first
  | ((with_reducible apply rCell.mk) <;> first | (with_reducible assumption) | omega)
  | ((with_reducible apply rPrime.mk) <;> first | (with_reducible assumption) | omega)
  | ((with_reducible apply rDigits.mk) <;> first | (with_reducible assumption) | omega)
  | ((with_reducible apply rNumberL.mk) <;> first | (with_reducible assumption) | omega)
  | (constructor; all_goals try (wtm_at "sd")))
local macro_rules | `(tactic| wtm_at "nm") => `(tactic| first
  | ((with_reducible show Ev _ _ (.Name "script" _) _); exact nmF (by assumption) 0 (by rfl) rfl (by decide +kernel) (by decide +kernel) (by decide +kernel))
  | ((with_reducible show Ev _ _ (.Name "P" _) _); exact nmF (by assumption) 1 (by rfl) rfl (by decide +kernel) (by decide +kernel) (by decide +kernel))
  | ((with_reducible show Ev _ _ (.Name "wide" _) _); exact nmF (by assumption) 2 (by rfl) rfl (by decide +kernel) (by decide +kernel) (by decide +kernel))
  | ((with_reducible show Ev _ _ (.Name "size" _) _); exact nmF (by assumption) 3 (by rfl) rfl (by decide +kernel) (by decide +kernel) (by decide +kernel))
  | ((with_reducible show Ev _ _ (.Name "digits" _) _); exact nmF (by assumption) 4 (by rfl) rfl (by decide +kernel) (by decide +kernel) (by decide +kernel))
  | ((with_reducible show Ev _ _ (.Name "rows" _) _); exact nmF (by assumption) 5 (by rfl) rfl (by decide +kernel) (by decide +kernel) (by decide +kernel))
  | ((with_reducible show Ev _ _ (.Name "goal" _) _); exact nmF (by assumption) 6 (by rfl) rfl (by decide +kernel) (by decide +kernel) (by decide +kernel))
  | ((with_reducible show Ev _ _ (.Name "found" _) _); exact nmF (by assumption) 7 (by rfl) rfl (by decide +kernel) (by decide +kernel) (by decide +kernel))
  | ((with_reducible show Ev _ _ (.Name "idle_rows" _) _); exact nmF (by assumption) 8 (by rfl) rfl (by decide +kernel) (by decide +kernel) (by decide +kernel))
  | ((with_reducible show Ev _ _ (.Name "free" _) _); exact nmF (by assumption) 9 (by rfl) rfl (by decide +kernel) (by decide +kernel) (by decide +kernel))
  | ((with_reducible show Ev _ _ (.Name "k" _) _); exact nmF (by assumption) 10 (by rfl) rfl (by decide +kernel) (by decide +kernel) (by decide +kernel)))
local macro_rules | `(tactic| wtm_at "own") => `(tactic| first
  | ((with_reducible show EvS _ _ (.Name "script" _) _ _); exact ownF (by assumption) 0 (by rfl) rfl (by decide +kernel) (by decide +kernel) (by decide +kernel))
  | ((with_reducible show EvS _ _ (.Name "P" _) _ _); exact ownF (by assumption) 1 (by rfl) rfl (by decide +kernel) (by decide +kernel) (by decide +kernel))
  | ((with_reducible show EvS _ _ (.Name "wide" _) _ _); exact ownF (by assumption) 2 (by rfl) rfl (by decide +kernel) (by decide +kernel) (by decide +kernel))
  | ((with_reducible show EvS _ _ (.Name "size" _) _ _); exact ownF (by assumption) 3 (by rfl) rfl (by decide +kernel) (by decide +kernel) (by decide +kernel))
  | ((with_reducible show EvS _ _ (.Name "digits" _) _ _); exact ownF (by assumption) 4 (by rfl) rfl (by decide +kernel) (by decide +kernel) (by decide +kernel))
  | ((with_reducible show EvS _ _ (.Name "rows" _) _ _); exact ownF (by assumption) 5 (by rfl) rfl (by decide +kernel) (by decide +kernel) (by decide +kernel))
  | ((with_reducible show EvS _ _ (.Name "goal" _) _ _); exact ownF (by assumption) 6 (by rfl) rfl (by decide +kernel) (by decide +kernel) (by decide +kernel))
  | ((with_reducible show EvS _ _ (.Name "found" _) _ _); exact ownF (by assumption) 7 (by rfl) rfl (by decide +kernel) (by decide +kernel) (by decide +kernel))
  | ((with_reducible show EvS _ _ (.Name "idle_rows" _) _ _); exact ownF (by assumption) 8 (by rfl) rfl (by decide +kernel) (by decide +kernel) (by decide +kernel))
  | ((with_reducible show EvS _ _ (.Name "free" _) _ _); exact ownF (by assumption) 9 (by rfl) rfl (by decide +kernel) (by decide +kernel) (by decide +kernel))
  | ((with_reducible show EvS _ _ (.Name "k" _) _ _); exact ownF (by assumption) 10 (by rfl) rfl (by decide +kernel) (by decide +kernel) (by decide +kernel)))
local macro_rules | `(tactic| wtm_at "ownl") => `(tactic| first
  | ((with_reducible show EvL _ _ (.Name "script" _) _); exact ownlF (by assumption) 0 (by rfl) rfl (by decide +kernel) (by decide +kernel) (by decide +kernel))
  | ((with_reducible show EvL _ _ (.Name "P" _) _); exact ownlF (by assumption) 1 (by rfl) rfl (by decide +kernel) (by decide +kernel) (by decide +kernel))
  | ((with_reducible show EvL _ _ (.Name "wide" _) _); exact ownlF (by assumption) 2 (by rfl) rfl (by decide +kernel) (by decide +kernel) (by decide +kernel))
  | ((with_reducible show EvL _ _ (.Name "size" _) _); exact ownlF (by assumption) 3 (by rfl) rfl (by decide +kernel) (by decide +kernel) (by decide +kernel))
  | ((with_reducible show EvL _ _ (.Name "digits" _) _); exact ownlF (by assumption) 4 (by rfl) rfl (by decide +kernel) (by decide +kernel) (by decide +kernel))
  | ((with_reducible show EvL _ _ (.Name "rows" _) _); exact ownlF (by assumption) 5 (by rfl) rfl (by decide +kernel) (by decide +kernel) (by decide +kernel))
  | ((with_reducible show EvL _ _ (.Name "goal" _) _); exact ownlF (by assumption) 6 (by rfl) rfl (by decide +kernel) (by decide +kernel) (by decide +kernel))
  | ((with_reducible show EvL _ _ (.Name "found" _) _); exact ownlF (by assumption) 7 (by rfl) rfl (by decide +kernel) (by decide +kernel) (by decide +kernel))
  | ((with_reducible show EvL _ _ (.Name "idle_rows" _) _); exact ownlF (by assumption) 8 (by rfl) rfl (by decide +kernel) (by decide +kernel) (by decide +kernel))
  | ((with_reducible show EvL _ _ (.Name "free" _) _); exact ownlF (by assumption) 9 (by rfl) rfl (by decide +kernel) (by decide +kernel) (by decide +kernel))
  | ((with_reducible show EvL _ _ (.Name "k" _) _); exact ownlF (by assumption) 10 (by rfl) rfl (by decide +kernel) (by decide +kernel) (by decide +kernel)))
local macro_rules | `(tactic| wtm_at "set") => `(tactic| first
  | ((with_reducible show S1 _ _ (.Assign [.Name "script" _] _ _) _); refine' setF ?st1 ?st2 0 ?st3 ?st4 ?ste ?st5; (case' st1 => assumption); (case' st2 => assumption); (case' st3 => rfl); (case' st4 => decide +kernel); (case' ste => wtm_at "ev"); (case' st5 => rfl))
  | ((with_reducible show S1 _ _ (.Assign [.Name "P" _] _ _) _); refine' setF ?st1 ?st2 1 ?st3 ?st4 ?ste ?st5; (case' st1 => assumption); (case' st2 => assumption); (case' st3 => rfl); (case' st4 => decide +kernel); (case' ste => wtm_at "ev"); (case' st5 => rfl))
  | ((with_reducible show S1 _ _ (.Assign [.Name "wide" _] _ _) _); refine' setF ?st1 ?st2 2 ?st3 ?st4 ?ste ?st5; (case' st1 => assumption); (case' st2 => assumption); (case' st3 => rfl); (case' st4 => decide +kernel); (case' ste => wtm_at "ev"); (case' st5 => rfl))
  | ((with_reducible show S1 _ _ (.Assign [.Name "size" _] _ _) _); refine' setF ?st1 ?st2 3 ?st3 ?st4 ?ste ?st5; (case' st1 => assumption); (case' st2 => assumption); (case' st3 => rfl); (case' st4 => decide +kernel); (case' ste => wtm_at "ev"); (case' st5 => rfl))
  | ((with_reducible show S1 _ _ (.Assign [.Name "digits" _] _ _) _); refine' setF ?st1 ?st2 4 ?st3 ?st4 ?ste ?st5; (case' st1 => assumption); (case' st2 => assumption); (case' st3 => rfl); (case' st4 => decide +kernel); (case' ste => wtm_at "ev"); (case' st5 => rfl))
  | ((with_reducible show S1 _ _ (.Assign [.Name "rows" _] _ _) _); refine' setF ?st1 ?st2 5 ?st3 ?st4 ?ste ?st5; (case' st1 => assumption); (case' st2 => assumption); (case' st3 => rfl); (case' st4 => decide +kernel); (case' ste => wtm_at "ev"); (case' st5 => rfl))
  | ((with_reducible show S1 _ _ (.Assign [.Name "goal" _] _ _) _); refine' setF ?st1 ?st2 6 ?st3 ?st4 ?ste ?st5; (case' st1 => assumption); (case' st2 => assumption); (case' st3 => rfl); (case' st4 => decide +kernel); (case' ste => wtm_at "ev"); (case' st5 => rfl))
  | ((with_reducible show S1 _ _ (.Assign [.Name "found" _] _ _) _); refine' setF ?st1 ?st2 7 ?st3 ?st4 ?ste ?st5; (case' st1 => assumption); (case' st2 => assumption); (case' st3 => rfl); (case' st4 => decide +kernel); (case' ste => wtm_at "ev"); (case' st5 => rfl))
  | ((with_reducible show S1 _ _ (.Assign [.Name "idle_rows" _] _ _) _); refine' setF ?st1 ?st2 8 ?st3 ?st4 ?ste ?st5; (case' st1 => assumption); (case' st2 => assumption); (case' st3 => rfl); (case' st4 => decide +kernel); (case' ste => wtm_at "ev"); (case' st5 => rfl))
  | ((with_reducible show S1 _ _ (.Assign [.Name "free" _] _ _) _); refine' setF ?st1 ?st2 9 ?st3 ?st4 ?ste ?st5; (case' st1 => assumption); (case' st2 => assumption); (case' st3 => rfl); (case' st4 => decide +kernel); (case' ste => wtm_at "ev"); (case' st5 => rfl)))
local macro_rules | `(tactic| wtm_at "app") => `(tactic| first
  | ((with_reducible show S1 _ _ (.Expr (.Call (.Attribute (.Name "script" _) _ _) _ _ _) _) _); refine' appF ?ap1 0 ?ap2 ?ap3 ?ap4 ?ape ?aps ?ap5 ?ap6; (case' ap1 => assumption); (case' ap2 => rfl); (case' ap3 => rfl); (case' ap4 => decide +kernel); (case' ape => wtm_at "ev"); (case' aps => try (wtm_at "sz")); (case' ap5 => decide +kernel); (case' ap6 => decide +kernel))
  | ((with_reducible show S1 _ _ (.Expr (.Call (.Attribute (.Name "P" _) _ _) _ _ _) _) _); refine' appF ?ap1 1 ?ap2 ?ap3 ?ap4 ?ape ?aps ?ap5 ?ap6; (case' ap1 => assumption); (case' ap2 => rfl); (case' ap3 => rfl); (case' ap4 => decide +kernel); (case' ape => wtm_at "ev"); (case' aps => try (wtm_at "sz")); (case' ap5 => decide +kernel); (case' ap6 => decide +kernel))
  | ((with_reducible show S1 _ _ (.Expr (.Call (.Attribute (.Name "wide" _) _ _) _ _ _) _) _); refine' appF ?ap1 2 ?ap2 ?ap3 ?ap4 ?ape ?aps ?ap5 ?ap6; (case' ap1 => assumption); (case' ap2 => rfl); (case' ap3 => rfl); (case' ap4 => decide +kernel); (case' ape => wtm_at "ev"); (case' aps => try (wtm_at "sz")); (case' ap5 => decide +kernel); (case' ap6 => decide +kernel))
  | ((with_reducible show S1 _ _ (.Expr (.Call (.Attribute (.Name "size" _) _ _) _ _ _) _) _); refine' appF ?ap1 3 ?ap2 ?ap3 ?ap4 ?ape ?aps ?ap5 ?ap6; (case' ap1 => assumption); (case' ap2 => rfl); (case' ap3 => rfl); (case' ap4 => decide +kernel); (case' ape => wtm_at "ev"); (case' aps => try (wtm_at "sz")); (case' ap5 => decide +kernel); (case' ap6 => decide +kernel))
  | ((with_reducible show S1 _ _ (.Expr (.Call (.Attribute (.Name "digits" _) _ _) _ _ _) _) _); refine' appF ?ap1 4 ?ap2 ?ap3 ?ap4 ?ape ?aps ?ap5 ?ap6; (case' ap1 => assumption); (case' ap2 => rfl); (case' ap3 => rfl); (case' ap4 => decide +kernel); (case' ape => wtm_at "ev"); (case' aps => try (wtm_at "sz")); (case' ap5 => decide +kernel); (case' ap6 => decide +kernel))
  | ((with_reducible show S1 _ _ (.Expr (.Call (.Attribute (.Name "rows" _) _ _) _ _ _) _) _); refine' appF ?ap1 5 ?ap2 ?ap3 ?ap4 ?ape ?aps ?ap5 ?ap6; (case' ap1 => assumption); (case' ap2 => rfl); (case' ap3 => rfl); (case' ap4 => decide +kernel); (case' ape => wtm_at "ev"); (case' aps => try (wtm_at "sz")); (case' ap5 => decide +kernel); (case' ap6 => decide +kernel))
  | ((with_reducible show S1 _ _ (.Expr (.Call (.Attribute (.Name "goal" _) _ _) _ _ _) _) _); refine' appF ?ap1 6 ?ap2 ?ap3 ?ap4 ?ape ?aps ?ap5 ?ap6; (case' ap1 => assumption); (case' ap2 => rfl); (case' ap3 => rfl); (case' ap4 => decide +kernel); (case' ape => wtm_at "ev"); (case' aps => try (wtm_at "sz")); (case' ap5 => decide +kernel); (case' ap6 => decide +kernel))
  | ((with_reducible show S1 _ _ (.Expr (.Call (.Attribute (.Name "found" _) _ _) _ _ _) _) _); refine' appF ?ap1 7 ?ap2 ?ap3 ?ap4 ?ape ?aps ?ap5 ?ap6; (case' ap1 => assumption); (case' ap2 => rfl); (case' ap3 => rfl); (case' ap4 => decide +kernel); (case' ape => wtm_at "ev"); (case' aps => try (wtm_at "sz")); (case' ap5 => decide +kernel); (case' ap6 => decide +kernel))
  | ((with_reducible show S1 _ _ (.Expr (.Call (.Attribute (.Name "idle_rows" _) _ _) _ _ _) _) _); refine' appF ?ap1 8 ?ap2 ?ap3 ?ap4 ?ape ?aps ?ap5 ?ap6; (case' ap1 => assumption); (case' ap2 => rfl); (case' ap3 => rfl); (case' ap4 => decide +kernel); (case' ape => wtm_at "ev"); (case' aps => try (wtm_at "sz")); (case' ap5 => decide +kernel); (case' ap6 => decide +kernel))
  | ((with_reducible show S1 _ _ (.Expr (.Call (.Attribute (.Name "free" _) _ _) _ _ _) _) _); refine' appF ?ap1 9 ?ap2 ?ap3 ?ap4 ?ape ?aps ?ap5 ?ap6; (case' ap1 => assumption); (case' ap2 => rfl); (case' ap3 => rfl); (case' ap4 => decide +kernel); (case' ape => wtm_at "ev"); (case' aps => try (wtm_at "sz")); (case' ap5 => decide +kernel); (case' ap6 => decide +kernel)))
local macro_rules | `(tactic| wtm_at "put") => `(tactic| first
  | ((with_reducible show S1 _ _ (.Assign [.Subscript (.Name "script" _) _ _] _ _) _); refine' putF ?pu1 0 ?pu2 ?pu3 ?pu4 ?pue ?pui ?pu5 ?pu6 ?pu7 ?pu8; (case' pu1 => assumption); (case' pu2 => rfl); (case' pu3 => rfl); (case' pu4 => decide +kernel); (case' pue => wtm_at "ev"); (case' pui => wtm_at "ev"); (case' pu5 => try (wtm_at "sd")); (case' pu6 => try (wtm_at "sd")); (case' pu7 => decide +kernel); (case' pu8 => decide +kernel))
  | ((with_reducible show S1 _ _ (.Assign [.Subscript (.Name "P" _) _ _] _ _) _); refine' putF ?pu1 1 ?pu2 ?pu3 ?pu4 ?pue ?pui ?pu5 ?pu6 ?pu7 ?pu8; (case' pu1 => assumption); (case' pu2 => rfl); (case' pu3 => rfl); (case' pu4 => decide +kernel); (case' pue => wtm_at "ev"); (case' pui => wtm_at "ev"); (case' pu5 => try (wtm_at "sd")); (case' pu6 => try (wtm_at "sd")); (case' pu7 => decide +kernel); (case' pu8 => decide +kernel))
  | ((with_reducible show S1 _ _ (.Assign [.Subscript (.Name "wide" _) _ _] _ _) _); refine' putF ?pu1 2 ?pu2 ?pu3 ?pu4 ?pue ?pui ?pu5 ?pu6 ?pu7 ?pu8; (case' pu1 => assumption); (case' pu2 => rfl); (case' pu3 => rfl); (case' pu4 => decide +kernel); (case' pue => wtm_at "ev"); (case' pui => wtm_at "ev"); (case' pu5 => try (wtm_at "sd")); (case' pu6 => try (wtm_at "sd")); (case' pu7 => decide +kernel); (case' pu8 => decide +kernel))
  | ((with_reducible show S1 _ _ (.Assign [.Subscript (.Name "size" _) _ _] _ _) _); refine' putF ?pu1 3 ?pu2 ?pu3 ?pu4 ?pue ?pui ?pu5 ?pu6 ?pu7 ?pu8; (case' pu1 => assumption); (case' pu2 => rfl); (case' pu3 => rfl); (case' pu4 => decide +kernel); (case' pue => wtm_at "ev"); (case' pui => wtm_at "ev"); (case' pu5 => try (wtm_at "sd")); (case' pu6 => try (wtm_at "sd")); (case' pu7 => decide +kernel); (case' pu8 => decide +kernel))
  | ((with_reducible show S1 _ _ (.Assign [.Subscript (.Name "digits" _) _ _] _ _) _); refine' putF ?pu1 4 ?pu2 ?pu3 ?pu4 ?pue ?pui ?pu5 ?pu6 ?pu7 ?pu8; (case' pu1 => assumption); (case' pu2 => rfl); (case' pu3 => rfl); (case' pu4 => decide +kernel); (case' pue => wtm_at "ev"); (case' pui => wtm_at "ev"); (case' pu5 => try (wtm_at "sd")); (case' pu6 => try (wtm_at "sd")); (case' pu7 => decide +kernel); (case' pu8 => decide +kernel))
  | ((with_reducible show S1 _ _ (.Assign [.Subscript (.Name "rows" _) _ _] _ _) _); refine' putF ?pu1 5 ?pu2 ?pu3 ?pu4 ?pue ?pui ?pu5 ?pu6 ?pu7 ?pu8; (case' pu1 => assumption); (case' pu2 => rfl); (case' pu3 => rfl); (case' pu4 => decide +kernel); (case' pue => wtm_at "ev"); (case' pui => wtm_at "ev"); (case' pu5 => try (wtm_at "sd")); (case' pu6 => try (wtm_at "sd")); (case' pu7 => decide +kernel); (case' pu8 => decide +kernel))
  | ((with_reducible show S1 _ _ (.Assign [.Subscript (.Name "goal" _) _ _] _ _) _); refine' putF ?pu1 6 ?pu2 ?pu3 ?pu4 ?pue ?pui ?pu5 ?pu6 ?pu7 ?pu8; (case' pu1 => assumption); (case' pu2 => rfl); (case' pu3 => rfl); (case' pu4 => decide +kernel); (case' pue => wtm_at "ev"); (case' pui => wtm_at "ev"); (case' pu5 => try (wtm_at "sd")); (case' pu6 => try (wtm_at "sd")); (case' pu7 => decide +kernel); (case' pu8 => decide +kernel))
  | ((with_reducible show S1 _ _ (.Assign [.Subscript (.Name "found" _) _ _] _ _) _); refine' putF ?pu1 7 ?pu2 ?pu3 ?pu4 ?pue ?pui ?pu5 ?pu6 ?pu7 ?pu8; (case' pu1 => assumption); (case' pu2 => rfl); (case' pu3 => rfl); (case' pu4 => decide +kernel); (case' pue => wtm_at "ev"); (case' pui => wtm_at "ev"); (case' pu5 => try (wtm_at "sd")); (case' pu6 => try (wtm_at "sd")); (case' pu7 => decide +kernel); (case' pu8 => decide +kernel))
  | ((with_reducible show S1 _ _ (.Assign [.Subscript (.Name "idle_rows" _) _ _] _ _) _); refine' putF ?pu1 8 ?pu2 ?pu3 ?pu4 ?pue ?pui ?pu5 ?pu6 ?pu7 ?pu8; (case' pu1 => assumption); (case' pu2 => rfl); (case' pu3 => rfl); (case' pu4 => decide +kernel); (case' pue => wtm_at "ev"); (case' pui => wtm_at "ev"); (case' pu5 => try (wtm_at "sd")); (case' pu6 => try (wtm_at "sd")); (case' pu7 => decide +kernel); (case' pu8 => decide +kernel))
  | ((with_reducible show S1 _ _ (.Assign [.Subscript (.Name "free" _) _ _] _ _) _); refine' putF ?pu1 9 ?pu2 ?pu3 ?pu4 ?pue ?pui ?pu5 ?pu6 ?pu7 ?pu8; (case' pu1 => assumption); (case' pu2 => rfl); (case' pu3 => rfl); (case' pu4 => decide +kernel); (case' pue => wtm_at "ev"); (case' pui => wtm_at "ev"); (case' pu5 => try (wtm_at "sd")); (case' pu6 => try (wtm_at "sd")); (case' pu7 => decide +kernel); (case' pu8 => decide +kernel)))
local macro_rules | `(tactic| wtm_at "reto") => `(tactic| first
  | ((with_reducible show S1 _ _ (.Return (some (.Name "script" _)) _) _); exact retOF (by assumption) 0 (by rfl) rfl (by decide +kernel) (by decide +kernel) (by decide +kernel))
  | ((with_reducible show S1 _ _ (.Return (some (.Name "P" _)) _) _); exact retOF (by assumption) 1 (by rfl) rfl (by decide +kernel) (by decide +kernel) (by decide +kernel))
  | ((with_reducible show S1 _ _ (.Return (some (.Name "wide" _)) _) _); exact retOF (by assumption) 2 (by rfl) rfl (by decide +kernel) (by decide +kernel) (by decide +kernel))
  | ((with_reducible show S1 _ _ (.Return (some (.Name "size" _)) _) _); exact retOF (by assumption) 3 (by rfl) rfl (by decide +kernel) (by decide +kernel) (by decide +kernel))
  | ((with_reducible show S1 _ _ (.Return (some (.Name "digits" _)) _) _); exact retOF (by assumption) 4 (by rfl) rfl (by decide +kernel) (by decide +kernel) (by decide +kernel))
  | ((with_reducible show S1 _ _ (.Return (some (.Name "rows" _)) _) _); exact retOF (by assumption) 5 (by rfl) rfl (by decide +kernel) (by decide +kernel) (by decide +kernel))
  | ((with_reducible show S1 _ _ (.Return (some (.Name "goal" _)) _) _); exact retOF (by assumption) 6 (by rfl) rfl (by decide +kernel) (by decide +kernel) (by decide +kernel))
  | ((with_reducible show S1 _ _ (.Return (some (.Name "found" _)) _) _); exact retOF (by assumption) 7 (by rfl) rfl (by decide +kernel) (by decide +kernel) (by decide +kernel))
  | ((with_reducible show S1 _ _ (.Return (some (.Name "idle_rows" _)) _) _); exact retOF (by assumption) 8 (by rfl) rfl (by decide +kernel) (by decide +kernel) (by decide +kernel))
  | ((with_reducible show S1 _ _ (.Return (some (.Name "free" _)) _) _); exact retOF (by assumption) 9 (by rfl) rfl (by decide +kernel) (by decide +kernel) (by decide +kernel)))
local macro_rules | `(tactic| wtm_at "tgt") => `(tactic| first
  | ((with_reducible show PG _ (.Name "script" _) _); exact tgF (by assumption) (by assumption) 0 (by rfl) (by decide +kernel))
  | ((with_reducible show PG _ (.Name "P" _) _); exact tgF (by assumption) (by assumption) 1 (by rfl) (by decide +kernel))
  | ((with_reducible show PG _ (.Name "wide" _) _); exact tgF (by assumption) (by assumption) 2 (by rfl) (by decide +kernel))
  | ((with_reducible show PG _ (.Name "size" _) _); exact tgF (by assumption) (by assumption) 3 (by rfl) (by decide +kernel))
  | ((with_reducible show PG _ (.Name "digits" _) _); exact tgF (by assumption) (by assumption) 4 (by rfl) (by decide +kernel))
  | ((with_reducible show PG _ (.Name "rows" _) _); exact tgF (by assumption) (by assumption) 5 (by rfl) (by decide +kernel))
  | ((with_reducible show PG _ (.Name "goal" _) _); exact tgF (by assumption) (by assumption) 6 (by rfl) (by decide +kernel))
  | ((with_reducible show PG _ (.Name "found" _) _); exact tgF (by assumption) (by assumption) 7 (by rfl) (by decide +kernel))
  | ((with_reducible show PG _ (.Name "idle_rows" _) _); exact tgF (by assumption) (by assumption) 8 (by rfl) (by decide +kernel))
  | ((with_reducible show PG _ (.Name "free" _) _); exact tgF (by assumption) (by assumption) 9 (by rfl) (by decide +kernel)))
theorem ok_law {f : Addr} {fd : FuncData} (F : Fun K "law" "law" s_law f fd) (hm : mg "law" = some (.ref f)) (b : Binds K fd ["script"] []) (mi : mg "isinstance" = none) (mli : mg "list" = none) (ml : mg "len" = none) (mr : mg "range" = none)
    (Gc : Fn P w K mg base 1 "_law_cell" ["script", "k"] rCell) (Gp : Fn P w K mg base 1 "_law_prime" ["cell"] rPrime) (Gd : Fn P w K mg base 1 "_law_digits" ["cell", "P", "size"] rDigits) (Gnu : Fn P w K mg base 2 "_law_number" ["script"] rNumberL) (Gre : Fn P w K mg base 2 "_law_reduced" ["P", "rows"] rReduced) (Gli : Fn P w K mg base 3 "_law_idle" ["P", "rows"] rLIdle) (Glt : Fn P w K mg base 1 "_law_tells" ["P", "rows", "goal", "told", "free"] rTells)
    (Gst : Fn P w K mg base 5 "steps_form" ["P", "rows"] rSteps) (Gid : Fn P w K mg base 7 "idle_sums" ["P", "rows"] rIdleS) (Gso : Fn P w K mg base 7 "solved" ["P", "rows", "goal"] rSolved) : Fn P w K mg base 8 "law" ["script"] rLaw := by
  refine fnF F hm b sc_law (fun ds r h => by cases h; rfl) fun X hX hT ds r h => ?_
  cases h with
  | @mk s hs =>
    refine' sm_cons ?s1 ?_
    case' s1 => wtm_at "st"
    obtain ⟨hp, hp2⟩ := lawPrime_prm (lawCell s 0)
    generalize lawPrime (lawCell s 0) = p at *
    have p3 := hp.lo
    have p9 := hp.hi
    have p1 : 1 < p := by omega
    have p0 : 0 < p := by omega
    refine' sm_cons ?s2 ?_
    case' s2 => wtm_at "st"
    obtain ⟨wd, hw, w1, w8⟩ : ∃ n : Nat, 1 + lawCell s 1 % 8 = n ∧ 1 ≤ n ∧ n ≤ 8 := ⟨(1 + lawCell s 1 % 8).toNat, by omega, by omega, by omega⟩
    rw [hw]
    refine' sm_cons ?s3 ?_
    case' s3 => wtm_at "st"
    obtain ⟨sz, hz, z1, z8⟩ : ∃ n : Nat, 1 + lawCell s 1 / 8 % 8 = n ∧ 1 ≤ n ∧ n ≤ 8 := ⟨(1 + lawCell s 1 / 8 % 8).toNat, by omega, by omega, by omega⟩
    rw [hz]
    have em : (wd : Int) * sz = ((wd * sz : Nat) : Int) := (Int.natCast_mul wd sz).symm
    have mle : wd * sz ≤ 64 := Nat.mul_le_mul w8 z8
    have cm : CMul (wd : Int) sz := .inl (by omega)
    have rD := rDigits.mk (c := lawNumber s) (P := p) (n := (wd : Int) * sz) p0 (by omega) (by omega) (by omega)
    have lD : (lawDigits (lawNumber s) p ((wd : Int) * sz).toNat).length = wd * sz := by rw [lawDigits_len]; omega
    have oD : OnW p (lawDigits (lawNumber s) p ((wd : Int) * sz).toNat) := lawDigits_mem p0
    refine' sm_cons (A1 := [.dat (.list (s.map .int)), .dat (.int p), .dat (.int wd), .dat (.int sz), .dat (tI (lawDigits (lawNumber s) p ((wd : Int) * sz).toNat)), .un, .un, .un, .un, .un, .un]) ?s4 ?_
    case' s4 =>
      refine' setF hX hT 4 (by rfl) ?q4 (callF hX Gd (by decide) ?a4 ?b4 rD ?c4) (by rfl)
      case' q4 => decide +kernel
      case' a4 => decide +kernel
      case' b4 => wtm_at "args"
      case' c4 => decide +kernel
    generalize lawDigits (lawNumber s) p ((wd : Int) * sz).toNat = dg at *
    have ron : ∀ k, k < sz → RowOn p wd (rowD dg wd k) := fun k hk => by
      have : k * wd + wd ≤ wd * sz := by
        have := Nat.mul_le_mul_left wd (show k + 1 ≤ sz from hk)
        rw [Nat.mul_add, Nat.mul_one, Nat.mul_comm wd k] at this
        omega
      refine ⟨by unfold rowD; rw [List.length_take, List.length_drop]; omega, fun y hy => oD y (List.mem_of_mem_drop (List.mem_of_mem_take hy))⟩
    refine' sm_cons (A1 := [.dat (.list (s.map .int)), .dat (.int p), .dat (.int wd), .dat (.int sz), .un, .own (.lst (((List.range sz).map (rowD dg wd)).map tI)), .un, .un, .un, .un, .un]) ?s5 ?_
    case' s5 =>
      refine' s1_le (setLcF hX 5 10 (List.range sz) (fun k : Nat => .int (k : Int)) (fun k => tI (rowD dg wd k)) ?i5 ?r5 ?ok5 ?n5 ?x5 ?z5 ?j5 (fun Y hY z hz => ?e5) ?yn5 ?yl5 ?yj5 ?k5 ?l5 ?a5) ?m5
      case' i5 => wtm_at "iter"
      case' r5 => rw [Int.toNat_natCast]
      case' ok5 => decide +kernel
      case' n5 => rfl
      case' x5 => decide +kernel
      case z5 => rw [List.length_range, sizeLine_eq]; omega
      case' j5 => rfl
      case' yn5 => rfl
      case' yl5 => decide +kernel
      case' yj5 => rfl
      case' k5 => decide +kernel
      case' l5 => decide +kernel
      case' a5 => decide +kernel
      case' m5 =>
        rw [List.map_map]
        exact LeA.cons LeC.refl (LeA.cons LeC.refl (LeA.cons LeC.refl (LeA.cons LeC.refl (LeA.cons LeC.un LeA.refl))))
      case' e5 =>
        have zl := List.mem_range.mp hz
        have zm : (z : Int) * wd = ((z * wd : Nat) : Int) := (Int.natCast_mul z wd).symm
        have z64 : z * wd ≤ 64 := Nat.mul_le_mul (show z ≤ 8 by omega) w8
        have zle : z * wd + wd ≤ wd * sz := by
          have := Nat.mul_le_mul_left wd (show z + 1 ≤ sz from zl)
          rw [Nat.mul_add, Nat.mul_one, Nat.mul_comm wd z] at this
          omega
        have cz : CMul (z : Int) wd := .inl (by omega)
        refine' ev_eq (ev_midT (xs := dg) (enc := PyData.int) (i := (z : Int) * wd) (j := (z : Int) * wd + wd) ?b5 ?c5 ?d5 ?f5 ?g5) ?h5
        case' b5 => wtm_at "ev"
        case' c5 => wtm_at "ev"
        case' d5 => wtm_at "ev"
        case f5 => omega
        case g5 => omega
        case h5 =>
          unfold rowD
          rw [show ((z : Int) * wd).toNat = z * wd by omega, show ((z : Int) * wd + wd).toNat - z * wd = wd by omega]
    have hrows : RowsOn p wd ((List.range sz).map (rowD dg wd)) := fun r hr => by
      obtain ⟨k, hk, rfl⟩ := List.mem_map.mp hr
      exact ron k (List.mem_range.mp hk)
    have lrows : ((List.range sz).map (rowD dg wd)).length = sz := by simp
    generalize (List.range sz).map (rowD dg wd) = rows at *
    refine' sm_frz 5 rfl ?_
    have w0 : 0 ≤ (wd : Int) := by omega
    refine' sm_cons ?s6 ?_
    case' s6 => wtm_at "st"
    rw [Int.toNat_natCast]
    have gl := lawDigits_len (lawCell s 3) p wd
    have go : OnW p (lawDigits (lawCell s 3) p wd) := lawDigits_mem p0
    generalize lawDigits (lawCell s 3) p wd = goal at *
    have hgo : RowOn p wd goal := ⟨gl, go⟩
    have rS := rSteps.mk hp hrows (show wd ≤ 1000 by omega) (show rows.length ≤ 800 by omega)
    have rR := rReduced.mk hp hrows (by omega) (by omega) (by omega)
    have hrg : RowsOn p wd (rows ++ [goal]) := rows_append hrows (rows_one gl go)
    have rR2 := rReduced.mk hp hrg (by rw [List.length_append]; show 1 ≤ rows.length + 1; omega) (by rw [List.length_append]; show rows.length + 1 ≤ 100; omega) (show wd ≤ 100 by omega)
    have rI := rIdleS.mk hp hrows (show wd ≤ 100 by omega) (show rows.length ≤ 100 by omega) (by omega)
    have rLI := rLIdle.mk hp hrows (by omega) (show rows.length ≤ 50 by omega) (show wd ≤ 50 by omega)
    have rSo := rSolved.mk hp hrows hgo (show wd ≤ 100 by omega) (show rows.length ≤ 100 by omega)
    have fi := free_iff hp hrows hgo
    have LST : ∀ {A : List C}, A[5]? = some (.dat (lT rows)) → ∀ {p1 p2 p3 : Pos}, Ev X A (.Call (.Name "list" p1) [.Name "rows" p2] [] p3) (.dat (lT rows)) := fun h5 => ev_frz (listF hX (by decide +kernel) mli (evs_dat (nmF hX 5 (by rfl) h5 (by decide +kernel) (by decide +kernel) (by decide +kernel)) SeqD.lst))
    refine' sm_cons (A1 := [.dat (.list (s.map .int)), .dat (.int p), .dat (.int wd), .dat (.int sz), .un, .dat (lT rows), .dat (tI goal), .dat (lT (stepsForm p rows)), .un, .un, .un]) ?s7 ?_
    case' s7 =>
      refine' setF hX hT 7 (by rfl) ?q7 (callF hX Gst (by decide) ?a7 (ea_cons ?b7 (ea_cons (LST rfl) ea_nil)) rS ?c7) (by rfl)
      case' q7 => decide +kernel
      case' a7 => decide +kernel
      case' b7 => wtm_at "ev"
      case' c7 => decide +kernel
    refine' sm_cons (s1_if (v := false) ?c8 (fun h => nomatch h) fun _ => sm_nil) ?_
    case' c8 =>
      refine' et_eq (ew_et (ew_or (v := false) (u := false) (et_not (v := true) ?a8) fun _ => ew_or1 (et_eq (et_cmpR (d1 := lT (stepsForm p rows)) (d2 := lT (stepsForm p rows)) ?b8 (ev_frz (callF hX Gre (by decide) ?d8 ?e8 rR ?f8)) (cmpNe hX encI.lst (by decide))) ?g8))) rfl
      case' a8 => wtm_at "test"
      case' b8 => wtm_at "ev"
      case' d8 => decide +kernel
      case' e8 => wtm_at "args"
      case' f8 => decide +kernel
      case g8 => simp
    refine' sm_cons (A1 := [.dat (.list (s.map .int)), .dat (.int p), .dat (.int wd), .dat (.int sz), .un, .dat (lT rows), .dat (tI goal), .dat (lT (stepsForm p rows)), .dat (lT (idleSums p wd rows)), .un, .un]) ?s9 ?_
    case' s9 =>
      refine' setF hX hT 8 (by rfl) ?q9 (ev_frz (callF hX Gid (by decide) ?a9 (ea_cons ?b9 (ea_cons (LST rfl) ea_nil)) rI ?c9)) (by rfl)
      case' q9 => decide +kernel
      case' a9 => decide +kernel
      case' b9 => wtm_at "ev"
      case' c9 => decide +kernel
    refine' sm_cons (s1_if (v := false) ?c10 (fun h => nomatch h) fun _ => sm_nil) ?_
    case' c10 =>
      refine' et_eq (ew_et (ew_or (v := false) (u := false) (et_not (v := true) ?a10) fun _ => ew_or1 (et_eq (et_cmpR (d1 := lT (idleSums p wd rows)) (d2 := lT (idleSums p wd rows)) ?b10 (ev_frz (callF hX Gli (by decide) ?d10 ?e10 rLI ?f10)) (cmpNe hX encI.lst (by decide))) ?g10))) rfl
      case' a10 => wtm_at "test"
      case' b10 => wtm_at "ev"
      case' d10 => decide +kernel
      case' e10 => wtm_at "args"
      case' f10 => decide +kernel
      case g10 => simp
    refine' sm_cons (A1 := [.dat (.list (s.map .int)), .dat (.int p), .dat (.int wd), .dat (.int sz), .un, .dat (lT rows), .dat (tI goal), .dat (lT (stepsForm p rows)), .un, .dat (.bool (decide (lead (leftOf p rows goal) < wd))), .un]) ?s11 ?_
    case' s11 =>
      refine' s1_le (setF hX hT 9 (c := .dat (.bool (decide (lead (leftOf p rows goal) < wd)))) (by rfl) ?q11 (ev_eq (ev_cmpR (d1 := .int ((stepsForm p (rows ++ [goal])).map tI).length) (d2 := .int ((stepsForm p rows).map tI).length) (lenF hX ?a11 ml (evs_new (callF hX Gre (by decide) ?b11 (ea_cons ?d11 (ea_cons (ev_frz (ev_eq (ev_catS (ds := rows.map tI) (es := [tI goal]) ?e11 ?f11 ?g11) ?h11)) ea_nil)) rR2 ?i11))) (lenF hX ?j11 ml ?k11) (cmpR_D .gt)) ?l11) (by rfl)) ?m11
      case' q11 => decide +kernel
      case' a11 => decide +kernel
      case' b11 => decide +kernel
      case' d11 => wtm_at "ev"
      case' e11 => exact evs_dat (by wtm_at "ev") SeqD.lst
      case' f11 => exact evs_new (ev_lst (ea_cons (by wtm_at "ev") ea_nil) (by rw [sizeLine_eq]; show 1 ≤ 16777216; decide))
      case g11 => rw [List.length_map, sizeLine_eq]; show rows.length + 1 ≤ 16777216; omega
      case h11 => rw [List.map_append]; rfl
      case' i11 => decide +kernel
      case' j11 => decide +kernel
      case' k11 => exact evs_dat (by wtm_at "ev") SeqD.lst
      case l11 =>
        rw [List.length_map, List.length_map]
        congr 2
        rw [decide_eq_decide]
        rw [← fi]
        exact Int.ofNat_lt
      case' m11 => exact LeA.cons LeC.refl (LeA.cons LeC.refl (LeA.cons LeC.refl (LeA.cons LeC.refl (LeA.cons LeC.refl (LeA.cons LeC.refl (LeA.cons LeC.refl (LeA.cons LeC.refl (LeA.cons LeC.un LeA.refl))))))))
    clear fi rR rR2 rI rLI rS
    obtain ⟨D, v, hD, hv, hT2⟩ : ∃ (D : PyData) (v : Bool), solvedD p wd rows goal = D ∧ decide (lead (leftOf p rows goal) < wd) = v ∧ rTells [.int p, lT rows, tI goal, D, .bool v] (.ok (.dat (.bool true))) := by
      by_cases hl : lead (leftOf p rows goal) < wd
      · obtain ⟨so1, so2, so3⟩ := shutOff_ok hp hrows hgo (shut_in hp hrows hgo hl)
        refine ⟨_, true, if_pos hl, decide_eq_true hl, .shut p0 p9 hrows hgo so1 (fun q hq => ?_) ?_ (by omega) (by omega)⟩
        · have := so2 q hq
          unfold Em at this
          rw [this]; exact Int.zero_emod p
        · unfold Em at so3
          rw [so3]
          exact Int.emod_eq_of_lt (by omega) p1
      · obtain ⟨to1, to2⟩ := told_ok hp hrows hgo (Nat.le_of_not_lt hl)
        exact ⟨_, false, if_neg hl, decide_eq_false hl, .sum p1 p9 hrows hgo to1 (told_sum hp hrows hgo (Nat.le_of_not_lt hl)) (by omega) (by omega)⟩
    rw [hD] at rSo
    rw [hv]
    clear hD hv
    refine' sm_end (s1_retE (callF hX Glt (by decide) ?a12 (ea_cons ?b12 (ea_cons ?c12 (ea_cons ?d12 (ea_cons (callF hX Gso (by decide) ?e12 (ea_cons ?f12 (ea_cons (LST rfl) (ea_cons ?g12 ea_nil))) rSo ?h12) (ea_cons ?i12 ea_nil))))) hT2 ?j12) rfl)
    case' a12 => decide +kernel
    case' b12 => wtm_at "ev"
    case' c12 => wtm_at "ev"
    case' d12 => wtm_at "ev"
    case' e12 => decide +kernel
    case' f12 => wtm_at "ev"
    case' g12 => wtm_at "ev"
    case' h12 => decide +kernel
    case' i12 => wtm_at "ev"
    case' j12 => decide +kernel
end
end W

namespace W
open PySem PySem.Spec PyProof.Rows L2 LR
def spL (K : PySem.W.Frag) : L2.Sp := fun vs H Q _ => ∃ (a : Addr) (ns : List Int), vs = [.ref a] ∧ SqL K H a (ns.map V.int) ∧ ns.length ≤ 63 ∧ ∀ H', Q (.bl true) H'
theorem all_mk {l : PySem.W.OpenLaw} {w : World} {K : PySem.W.Frag} {h : Heap} {mg : Str → Option Value} {fa : Addr} (X : K.In h) (G : h.Ns mainGlobals mg) (hfa : mg "law" = some (.ref fa))
    {f_on : Addr} {oc_on kV_on dc_on pm_on cd_on ct_on : Value} {od_on an_on : Option Addr} {sl_on : Array (Option Value)}
    (a_on : PySem.W.nsIn K mainGlobals "on" = some (some (.ref f_on))) (l_on : K.lookup f_on = some ⟨oc_on, od_on, .func (PySem.W.fnOf "on" "on" (defArgs s_on) (defBody s_on) (defScope s_on) .none kV_on dc_on pm_on an_on cd_on ct_on), sl_on⟩) (c_on : PySem.W.codeIn K cd_on "on" = true) (k_on : PySem.W.keepIn K (.ref f_on) = true)
    {f__law_cell : Addr} {oc__law_cell kV__law_cell dc__law_cell pm__law_cell cd__law_cell ct__law_cell : Value} {od__law_cell an__law_cell : Option Addr} {sl__law_cell : Array (Option Value)}
    (a__law_cell : PySem.W.nsIn K mainGlobals "_law_cell" = some (some (.ref f__law_cell))) (l__law_cell : K.lookup f__law_cell = some ⟨oc__law_cell, od__law_cell, .func (PySem.W.fnOf "_law_cell" "_law_cell" (defArgs s__law_cell) (defBody s__law_cell) (defScope s__law_cell) .none kV__law_cell dc__law_cell pm__law_cell an__law_cell cd__law_cell ct__law_cell), sl__law_cell⟩) (c__law_cell : PySem.W.codeIn K cd__law_cell "_law_cell" = true) (k__law_cell : PySem.W.keepIn K (.ref f__law_cell) = true)
    {f__law_prime : Addr} {oc__law_prime kV__law_prime dc__law_prime pm__law_prime cd__law_prime ct__law_prime : Value} {od__law_prime an__law_prime : Option Addr} {sl__law_prime : Array (Option Value)}
    (a__law_prime : PySem.W.nsIn K mainGlobals "_law_prime" = some (some (.ref f__law_prime))) (l__law_prime : K.lookup f__law_prime = some ⟨oc__law_prime, od__law_prime, .func (PySem.W.fnOf "_law_prime" "_law_prime" (defArgs s__law_prime) (defBody s__law_prime) (defScope s__law_prime) .none kV__law_prime dc__law_prime pm__law_prime an__law_prime cd__law_prime ct__law_prime), sl__law_prime⟩) (c__law_prime : PySem.W.codeIn K cd__law_prime "_law_prime" = true) (k__law_prime : PySem.W.keepIn K (.ref f__law_prime) = true)
    {f__law_digits : Addr} {oc__law_digits kV__law_digits dc__law_digits pm__law_digits cd__law_digits ct__law_digits : Value} {od__law_digits an__law_digits : Option Addr} {sl__law_digits : Array (Option Value)}
    (a__law_digits : PySem.W.nsIn K mainGlobals "_law_digits" = some (some (.ref f__law_digits))) (l__law_digits : K.lookup f__law_digits = some ⟨oc__law_digits, od__law_digits, .func (PySem.W.fnOf "_law_digits" "_law_digits" (defArgs s__law_digits) (defBody s__law_digits) (defScope s__law_digits) .none kV__law_digits dc__law_digits pm__law_digits an__law_digits cd__law_digits ct__law_digits), sl__law_digits⟩) (c__law_digits : PySem.W.codeIn K cd__law_digits "_law_digits" = true) (k__law_digits : PySem.W.keepIn K (.ref f__law_digits) = true)
    {f_back : Addr} {oc_back kV_back dc_back pm_back cd_back ct_back : Value} {od_back an_back : Option Addr} {sl_back : Array (Option Value)}
    (a_back : PySem.W.nsIn K mainGlobals "back" = some (some (.ref f_back))) (l_back : K.lookup f_back = some ⟨oc_back, od_back, .func (PySem.W.fnOf "back" "back" (defArgs s_back) (defBody s_back) (defScope s_back) .none kV_back dc_back pm_back an_back cd_back ct_back), sl_back⟩) (c_back : PySem.W.codeIn K cd_back "back" = true) (k_back : PySem.W.keepIn K (.ref f_back) = true)
    {f_lead_of : Addr} {oc_lead_of kV_lead_of dc_lead_of pm_lead_of cd_lead_of ct_lead_of : Value} {od_lead_of an_lead_of : Option Addr} {sl_lead_of : Array (Option Value)}
    (a_lead_of : PySem.W.nsIn K mainGlobals "lead_of" = some (some (.ref f_lead_of))) (l_lead_of : K.lookup f_lead_of = some ⟨oc_lead_of, od_lead_of, .func (PySem.W.fnOf "lead_of" "lead_of" (defArgs s_lead_of) (defBody s_lead_of) (defScope s_lead_of) .none kV_lead_of dc_lead_of pm_lead_of an_lead_of cd_lead_of ct_lead_of), sl_lead_of⟩) (c_lead_of : PySem.W.codeIn K cd_lead_of "lead_of" = true) (k_lead_of : PySem.W.keepIn K (.ref f_lead_of) = true)
    {f_less : Addr} {oc_less kV_less dc_less pm_less cd_less ct_less : Value} {od_less an_less : Option Addr} {sl_less : Array (Option Value)}
    (a_less : PySem.W.nsIn K mainGlobals "less" = some (some (.ref f_less))) (l_less : K.lookup f_less = some ⟨oc_less, od_less, .func (PySem.W.fnOf "less" "less" (defArgs s_less) (defBody s_less) (defScope s_less) .none kV_less dc_less pm_less an_less cd_less ct_less), sl_less⟩) (c_less : PySem.W.codeIn K cd_less "less" = true) (k_less : PySem.W.keepIn K (.ref f_less) = true)
    {f_rest_by : Addr} {oc_rest_by kV_rest_by dc_rest_by pm_rest_by cd_rest_by ct_rest_by : Value} {od_rest_by an_rest_by : Option Addr} {sl_rest_by : Array (Option Value)}
    (a_rest_by : PySem.W.nsIn K mainGlobals "rest_by" = some (some (.ref f_rest_by))) (l_rest_by : K.lookup f_rest_by = some ⟨oc_rest_by, od_rest_by, .func (PySem.W.fnOf "rest_by" "rest_by" (defArgs s_rest_by) (defBody s_rest_by) (defScope s_rest_by) .none kV_rest_by dc_rest_by pm_rest_by an_rest_by cd_rest_by ct_rest_by), sl_rest_by⟩) (c_rest_by : PySem.W.codeIn K cd_rest_by "rest_by" = true) (k_rest_by : PySem.W.keepIn K (.ref f_rest_by) = true)
    {f_with_row : Addr} {oc_with_row kV_with_row dc_with_row pm_with_row cd_with_row ct_with_row : Value} {od_with_row an_with_row : Option Addr} {sl_with_row : Array (Option Value)}
    (a_with_row : PySem.W.nsIn K mainGlobals "with_row" = some (some (.ref f_with_row))) (l_with_row : K.lookup f_with_row = some ⟨oc_with_row, od_with_row, .func (PySem.W.fnOf "with_row" "with_row" (defArgs s_with_row) (defBody s_with_row) (defScope s_with_row) .none kV_with_row dc_with_row pm_with_row an_with_row cd_with_row ct_with_row), sl_with_row⟩) (c_with_row : PySem.W.codeIn K cd_with_row "with_row" = true) (k_with_row : PySem.W.keepIn K (.ref f_with_row) = true)
    {f_steps_form : Addr} {oc_steps_form kV_steps_form dc_steps_form pm_steps_form cd_steps_form ct_steps_form : Value} {od_steps_form an_steps_form : Option Addr} {sl_steps_form : Array (Option Value)}
    (a_steps_form : PySem.W.nsIn K mainGlobals "steps_form" = some (some (.ref f_steps_form))) (l_steps_form : K.lookup f_steps_form = some ⟨oc_steps_form, od_steps_form, .func (PySem.W.fnOf "steps_form" "steps_form" (defArgs s_steps_form) (defBody s_steps_form) (defScope s_steps_form) .none kV_steps_form dc_steps_form pm_steps_form an_steps_form cd_steps_form ct_steps_form), sl_steps_form⟩) (c_steps_form : PySem.W.codeIn K cd_steps_form "steps_form" = true) (k_steps_form : PySem.W.keepIn K (.ref f_steps_form) = true)
    {f_with_weights : Addr} {oc_with_weights kV_with_weights dc_with_weights pm_with_weights cd_with_weights ct_with_weights : Value} {od_with_weights an_with_weights : Option Addr} {sl_with_weights : Array (Option Value)}
    (a_with_weights : PySem.W.nsIn K mainGlobals "with_weights" = some (some (.ref f_with_weights))) (l_with_weights : K.lookup f_with_weights = some ⟨oc_with_weights, od_with_weights, .func (PySem.W.fnOf "with_weights" "with_weights" (defArgs s_with_weights) (defBody s_with_weights) (defScope s_with_weights) .none kV_with_weights dc_with_weights pm_with_weights an_with_weights cd_with_weights ct_with_weights), sl_with_weights⟩) (c_with_weights : PySem.W.codeIn K cd_with_weights "with_weights" = true) (k_with_weights : PySem.W.keepIn K (.ref f_with_weights) = true)
    {f_idle_sums : Addr} {oc_idle_sums kV_idle_sums dc_idle_sums pm_idle_sums cd_idle_sums ct_idle_sums : Value} {od_idle_sums an_idle_sums : Option Addr} {sl_idle_sums : Array (Option Value)}
    (a_idle_sums : PySem.W.nsIn K mainGlobals "idle_sums" = some (some (.ref f_idle_sums))) (l_idle_sums : K.lookup f_idle_sums = some ⟨oc_idle_sums, od_idle_sums, .func (PySem.W.fnOf "idle_sums" "idle_sums" (defArgs s_idle_sums) (defBody s_idle_sums) (defScope s_idle_sums) .none kV_idle_sums dc_idle_sums pm_idle_sums an_idle_sums cd_idle_sums ct_idle_sums), sl_idle_sums⟩) (c_idle_sums : PySem.W.codeIn K cd_idle_sums "idle_sums" = true) (k_idle_sums : PySem.W.keepIn K (.ref f_idle_sums) = true)
    {f_shut_off : Addr} {oc_shut_off kV_shut_off dc_shut_off pm_shut_off cd_shut_off ct_shut_off : Value} {od_shut_off an_shut_off : Option Addr} {sl_shut_off : Array (Option Value)}
    (a_shut_off : PySem.W.nsIn K mainGlobals "shut_off" = some (some (.ref f_shut_off))) (l_shut_off : K.lookup f_shut_off = some ⟨oc_shut_off, od_shut_off, .func (PySem.W.fnOf "shut_off" "shut_off" (defArgs s_shut_off) (defBody s_shut_off) (defScope s_shut_off) .none kV_shut_off dc_shut_off pm_shut_off an_shut_off cd_shut_off ct_shut_off), sl_shut_off⟩) (c_shut_off : PySem.W.codeIn K cd_shut_off "shut_off" = true) (k_shut_off : PySem.W.keepIn K (.ref f_shut_off) = true)
    {f_solved : Addr} {oc_solved kV_solved dc_solved pm_solved cd_solved ct_solved : Value} {od_solved an_solved : Option Addr} {sl_solved : Array (Option Value)}
    (a_solved : PySem.W.nsIn K mainGlobals "solved" = some (some (.ref f_solved))) (l_solved : K.lookup f_solved = some ⟨oc_solved, od_solved, .func (PySem.W.fnOf "solved" "solved" (defArgs s_solved) (defBody s_solved) (defScope s_solved) .none kV_solved dc_solved pm_solved an_solved cd_solved ct_solved), sl_solved⟩) (c_solved : PySem.W.codeIn K cd_solved "solved" = true) (k_solved : PySem.W.keepIn K (.ref f_solved) = true)
    {f__law_back : Addr} {oc__law_back kV__law_back dc__law_back pm__law_back cd__law_back ct__law_back : Value} {od__law_back an__law_back : Option Addr} {sl__law_back : Array (Option Value)}
    (a__law_back : PySem.W.nsIn K mainGlobals "_law_back" = some (some (.ref f__law_back))) (l__law_back : K.lookup f__law_back = some ⟨oc__law_back, od__law_back, .func (PySem.W.fnOf "_law_back" "_law_back" (defArgs s__law_back) (defBody s__law_back) (defScope s__law_back) .none kV__law_back dc__law_back pm__law_back an__law_back cd__law_back ct__law_back), sl__law_back⟩) (c__law_back : PySem.W.codeIn K cd__law_back "_law_back" = true) (k__law_back : PySem.W.keepIn K (.ref f__law_back) = true)
    {f__law_cleared : Addr} {oc__law_cleared kV__law_cleared dc__law_cleared pm__law_cleared cd__law_cleared ct__law_cleared : Value} {od__law_cleared an__law_cleared : Option Addr} {sl__law_cleared : Array (Option Value)}
    (a__law_cleared : PySem.W.nsIn K mainGlobals "_law_cleared" = some (some (.ref f__law_cleared))) (l__law_cleared : K.lookup f__law_cleared = some ⟨oc__law_cleared, od__law_cleared, .func (PySem.W.fnOf "_law_cleared" "_law_cleared" (defArgs s__law_cleared) (defBody s__law_cleared) (defScope s__law_cleared) .none kV__law_cleared dc__law_cleared pm__law_cleared an__law_cleared cd__law_cleared ct__law_cleared), sl__law_cleared⟩) (c__law_cleared : PySem.W.codeIn K cd__law_cleared "_law_cleared" = true) (k__law_cleared : PySem.W.keepIn K (.ref f__law_cleared) = true)
    {f__law_reduced : Addr} {oc__law_reduced kV__law_reduced dc__law_reduced pm__law_reduced cd__law_reduced ct__law_reduced : Value} {od__law_reduced an__law_reduced : Option Addr} {sl__law_reduced : Array (Option Value)}
    (a__law_reduced : PySem.W.nsIn K mainGlobals "_law_reduced" = some (some (.ref f__law_reduced))) (l__law_reduced : K.lookup f__law_reduced = some ⟨oc__law_reduced, od__law_reduced, .func (PySem.W.fnOf "_law_reduced" "_law_reduced" (defArgs s__law_reduced) (defBody s__law_reduced) (defScope s__law_reduced) .none kV__law_reduced dc__law_reduced pm__law_reduced an__law_reduced cd__law_reduced ct__law_reduced), sl__law_reduced⟩) (c__law_reduced : PySem.W.codeIn K cd__law_reduced "_law_reduced" = true) (k__law_reduced : PySem.W.keepIn K (.ref f__law_reduced) = true)
    {f__law_idle : Addr} {oc__law_idle kV__law_idle dc__law_idle pm__law_idle cd__law_idle ct__law_idle : Value} {od__law_idle an__law_idle : Option Addr} {sl__law_idle : Array (Option Value)}
    (a__law_idle : PySem.W.nsIn K mainGlobals "_law_idle" = some (some (.ref f__law_idle))) (l__law_idle : K.lookup f__law_idle = some ⟨oc__law_idle, od__law_idle, .func (PySem.W.fnOf "_law_idle" "_law_idle" (defArgs s__law_idle) (defBody s__law_idle) (defScope s__law_idle) .none kV__law_idle dc__law_idle pm__law_idle an__law_idle cd__law_idle ct__law_idle), sl__law_idle⟩) (c__law_idle : PySem.W.codeIn K cd__law_idle "_law_idle" = true) (k__law_idle : PySem.W.keepIn K (.ref f__law_idle) = true)
    {f__law_number : Addr} {oc__law_number kV__law_number dc__law_number pm__law_number cd__law_number ct__law_number : Value} {od__law_number an__law_number : Option Addr} {sl__law_number : Array (Option Value)}
    (a__law_number : PySem.W.nsIn K mainGlobals "_law_number" = some (some (.ref f__law_number))) (l__law_number : K.lookup f__law_number = some ⟨oc__law_number, od__law_number, .func (PySem.W.fnOf "_law_number" "_law_number" (defArgs s__law_number) (defBody s__law_number) (defScope s__law_number) .none kV__law_number dc__law_number pm__law_number an__law_number cd__law_number ct__law_number), sl__law_number⟩) (c__law_number : PySem.W.codeIn K cd__law_number "_law_number" = true) (k__law_number : PySem.W.keepIn K (.ref f__law_number) = true)
    {f__law_tells : Addr} {oc__law_tells kV__law_tells dc__law_tells pm__law_tells cd__law_tells ct__law_tells : Value} {od__law_tells an__law_tells : Option Addr} {sl__law_tells : Array (Option Value)}
    (a__law_tells : PySem.W.nsIn K mainGlobals "_law_tells" = some (some (.ref f__law_tells))) (l__law_tells : K.lookup f__law_tells = some ⟨oc__law_tells, od__law_tells, .func (PySem.W.fnOf "_law_tells" "_law_tells" (defArgs s__law_tells) (defBody s__law_tells) (defScope s__law_tells) .none kV__law_tells dc__law_tells pm__law_tells an__law_tells cd__law_tells ct__law_tells), sl__law_tells⟩) (c__law_tells : PySem.W.codeIn K cd__law_tells "_law_tells" = true) (k__law_tells : PySem.W.keepIn K (.ref f__law_tells) = true)
    {f_law : Addr} {oc_law kV_law dc_law pm_law cd_law ct_law : Value} {od_law an_law : Option Addr} {sl_law : Array (Option Value)}
    (a_law : PySem.W.nsIn K mainGlobals "law" = some (some (.ref f_law))) (l_law : K.lookup f_law = some ⟨oc_law, od_law, .func (PySem.W.fnOf "law" "law" (defArgs s_law) (defBody s_law) (defScope s_law) .none kV_law dc_law pm_law an_law cd_law ct_law), sl_law⟩) (c_law : PySem.W.codeIn K cd_law "law" = true) (k_law : PySem.W.keepIn K (.ref f_law) = true)
    (z_abs : PySem.W.nsIn K mainGlobals "abs" = some none)
    (z_any : PySem.W.nsIn K mainGlobals "any" = some none)
    (z_int : PySem.W.nsIn K mainGlobals "int" = some none)
    (z_isinstance : PySem.W.nsIn K mainGlobals "isinstance" = some none)
    (z_len : PySem.W.nsIn K mainGlobals "len" = some none)
    (z_list : PySem.W.nsIn K mainGlobals "list" = some none)
    (z_range : PySem.W.nsIn K mainGlobals "range" = some none)
    (z_sorted : PySem.W.nsIn K mainGlobals "sorted" = some none)
    (z_sum : PySem.W.nsIn K mainGlobals "sum" = some none)
    (z_tuple : PySem.W.nsIn K mainGlobals "tuple" = some none)
    (z_zip : PySem.W.nsIn K mainGlobals "zip" = some none)
    {e_NoNumber : Addr} (ea_NoNumber : PySem.W.nsIn K mainGlobals "NoNumber" = some (some (.ref e_NoNumber)))
    (eb_NoNumber : PySem.W.excIn K e_NoNumber [.type "ValueError", .type "Exception", .type "BaseException", .type "object"] "ValueError.__new__" = true) (ec_NoNumber : PySem.W.keepIn K (.ref e_NoNumber) = true) (ed_NoNumber : PySem.W.subIn K (.ref e_NoNumber) (.type "BaseException") = some true) (ee_NoNumber : PySem.W.typeIn K (.ref e_NoNumber) = some (.type "type")) :
    ∃ fd : FuncData, (∀ (s : Shared) (v : Value), BindsTo s fd ⟨[v], []⟩ [("script", v)]) ∧ ∀ base : Heap, K.In base → base.Ns mainGlobals mg → FnOk l.prog w K mg base (L2.CX l.prog w) 8 fa fd ["script"] (spL K) := by
  have m_on : mg "on" = some (.ref f_on) := PySem.W.mg_of X G a_on
  have F_on := fun_mk (st := s_on) l_on c_on k_on
  have b_on := F_on.binds (ps := ["P", "n"]) fun _ _ _ _ _ _ us hl => match us, hl with | [_, _], _ => rfl
  have m__law_cell : mg "_law_cell" = some (.ref f__law_cell) := PySem.W.mg_of X G a__law_cell
  have F__law_cell := fun_mk (st := s__law_cell) l__law_cell c__law_cell k__law_cell
  have b__law_cell := F__law_cell.binds (ps := ["script", "k"]) fun _ _ _ _ _ _ us hl => match us, hl with | [_, _], _ => rfl
  have m__law_prime : mg "_law_prime" = some (.ref f__law_prime) := PySem.W.mg_of X G a__law_prime
  have F__law_prime := fun_mk (st := s__law_prime) l__law_prime c__law_prime k__law_prime
  have b__law_prime := F__law_prime.binds (ps := ["cell"]) fun _ _ _ _ _ _ us hl => match us, hl with | [_], _ => rfl
  have m__law_digits : mg "_law_digits" = some (.ref f__law_digits) := PySem.W.mg_of X G a__law_digits
  have F__law_digits := fun_mk (st := s__law_digits) l__law_digits c__law_digits k__law_digits
  have b__law_digits := F__law_digits.binds (ps := ["cell", "P", "size"]) fun _ _ _ _ _ _ us hl => match us, hl with | [_, _, _], _ => rfl
  have m_back : mg "back" = some (.ref f_back) := PySem.W.mg_of X G a_back
  have F_back := fun_mk (st := s_back) l_back c_back k_back
  have b_back := F_back.binds (ps := ["P", "n"]) fun _ _ _ _ _ _ us hl => match us, hl with | [_, _], _ => rfl
  have m_lead_of : mg "lead_of" = some (.ref f_lead_of) := PySem.W.mg_of X G a_lead_of
  have F_lead_of := fun_mk (st := s_lead_of) l_lead_of c_lead_of k_lead_of
  have b_lead_of := F_lead_of.binds (ps := ["row"]) fun _ _ _ _ _ _ us hl => match us, hl with | [_], _ => rfl
  have m_less : mg "less" = some (.ref f_less) := PySem.W.mg_of X G a_less
  have F_less := fun_mk (st := s_less) l_less c_less k_less
  have b_less := F_less.binds (ps := ["P", "row", "other", "c"]) fun _ _ _ _ _ _ us hl => match us, hl with | [_, _, _, _], _ => rfl
  have m_rest_by : mg "rest_by" = some (.ref f_rest_by) := PySem.W.mg_of X G a_rest_by
  have F_rest_by := fun_mk (st := s_rest_by) l_rest_by c_rest_by k_rest_by
  have b_rest_by := F_rest_by.binds (ps := ["P", "found", "row"]) fun _ _ _ _ _ _ us hl => match us, hl with | [_, _, _], _ => rfl
  have m_with_row : mg "with_row" = some (.ref f_with_row) := PySem.W.mg_of X G a_with_row
  have F_with_row := fun_mk (st := s_with_row) l_with_row c_with_row k_with_row
  have b_with_row := F_with_row.binds (ps := ["P", "found", "row"]) fun _ _ _ _ _ _ us hl => match us, hl with | [_, _, _], _ => rfl
  have m_steps_form : mg "steps_form" = some (.ref f_steps_form) := PySem.W.mg_of X G a_steps_form
  have F_steps_form := fun_mk (st := s_steps_form) l_steps_form c_steps_form k_steps_form
  have b_steps_form := F_steps_form.binds (ps := ["P", "rows"]) fun _ _ _ _ _ _ us hl => match us, hl with | [_, _], _ => rfl
  have m_with_weights : mg "with_weights" = some (.ref f_with_weights) := PySem.W.mg_of X G a_with_weights
  have F_with_weights := fun_mk (st := s_with_weights) l_with_weights c_with_weights k_with_weights
  have b_with_weights := F_with_weights.binds (ps := ["P", "rows"]) fun _ _ _ _ _ _ us hl => match us, hl with | [_, _], _ => rfl
  have m_idle_sums : mg "idle_sums" = some (.ref f_idle_sums) := PySem.W.mg_of X G a_idle_sums
  have F_idle_sums := fun_mk (st := s_idle_sums) l_idle_sums c_idle_sums k_idle_sums
  have b_idle_sums := F_idle_sums.binds (ps := ["P", "rows"]) fun _ _ _ _ _ _ us hl => match us, hl with | [_, _], _ => rfl
  have m_shut_off : mg "shut_off" = some (.ref f_shut_off) := PySem.W.mg_of X G a_shut_off
  have F_shut_off := fun_mk (st := s_shut_off) l_shut_off c_shut_off k_shut_off
  have b_shut_off := F_shut_off.binds (ps := ["P", "rows", "goal"]) fun _ _ _ _ _ _ us hl => match us, hl with | [_, _, _], _ => rfl
  have m_solved : mg "solved" = some (.ref f_solved) := PySem.W.mg_of X G a_solved
  have F_solved := fun_mk (st := s_solved) l_solved c_solved k_solved
  have b_solved := F_solved.binds (ps := ["P", "rows", "goal"]) fun _ _ _ _ _ _ us hl => match us, hl with | [_, _, _], _ => rfl
  have m__law_back : mg "_law_back" = some (.ref f__law_back) := PySem.W.mg_of X G a__law_back
  have F__law_back := fun_mk (st := s__law_back) l__law_back c__law_back k__law_back
  have b__law_back := F__law_back.binds (ps := ["P", "x"]) fun _ _ _ _ _ _ us hl => match us, hl with | [_, _], _ => rfl
  have m__law_cleared : mg "_law_cleared" = some (.ref f__law_cleared) := PySem.W.mg_of X G a__law_cleared
  have F__law_cleared := fun_mk (st := s__law_cleared) l__law_cleared c__law_cleared k__law_cleared
  have b__law_cleared := F__law_cleared.binds (ps := ["P", "row", "first", "at"]) fun _ _ _ _ _ _ us hl => match us, hl with | [_, _, _, _], _ => rfl
  have m__law_reduced : mg "_law_reduced" = some (.ref f__law_reduced) := PySem.W.mg_of X G a__law_reduced
  have F__law_reduced := fun_mk (st := s__law_reduced) l__law_reduced c__law_reduced k__law_reduced
  have b__law_reduced := F__law_reduced.binds (ps := ["P", "rows"]) fun _ _ _ _ _ _ us hl => match us, hl with | [_, _], _ => rfl
  have m__law_idle : mg "_law_idle" = some (.ref f__law_idle) := PySem.W.mg_of X G a__law_idle
  have F__law_idle := fun_mk (st := s__law_idle) l__law_idle c__law_idle k__law_idle
  have b__law_idle := F__law_idle.binds (ps := ["P", "rows"]) fun _ _ _ _ _ _ us hl => match us, hl with | [_, _], _ => rfl
  have m__law_number : mg "_law_number" = some (.ref f__law_number) := PySem.W.mg_of X G a__law_number
  have F__law_number := fun_mk (st := s__law_number) l__law_number c__law_number k__law_number
  have b__law_number := F__law_number.binds (ps := ["script"]) fun _ _ _ _ _ _ us hl => match us, hl with | [_], _ => rfl
  have m__law_tells : mg "_law_tells" = some (.ref f__law_tells) := PySem.W.mg_of X G a__law_tells
  have F__law_tells := fun_mk (st := s__law_tells) l__law_tells c__law_tells k__law_tells
  have b__law_tells := F__law_tells.binds (ps := ["P", "rows", "goal", "told", "free"]) fun _ _ _ _ _ _ us hl => match us, hl with | [_, _, _, _, _], _ => rfl
  have m_law : mg "law" = some (.ref f_law) := PySem.W.mg_of X G a_law
  have F_law := fun_mk (st := s_law) l_law c_law k_law
  have b_law := F_law.binds (ps := ["script"]) fun _ _ _ _ _ _ us hl => match us, hl with | [_], _ => rfl
  have y_abs : mg "abs" = none := PySem.W.mg_none_of X G z_abs
  have y_any : mg "any" = none := PySem.W.mg_none_of X G z_any
  have y_int : mg "int" = none := PySem.W.mg_none_of X G z_int
  have y_isinstance : mg "isinstance" = none := PySem.W.mg_none_of X G z_isinstance
  have y_len : mg "len" = none := PySem.W.mg_none_of X G z_len
  have y_list : mg "list" = none := PySem.W.mg_none_of X G z_list
  have y_range : mg "range" = none := PySem.W.mg_none_of X G z_range
  have y_sorted : mg "sorted" = none := PySem.W.mg_none_of X G z_sorted
  have y_sum : mg "sum" = none := PySem.W.mg_none_of X G z_sum
  have y_tuple : mg "tuple" = none := PySem.W.mg_none_of X G z_tuple
  have y_zip : mg "zip" = none := PySem.W.mg_none_of X G z_zip
  have x_NoNumber : XC K mg "NoNumber" := ⟨_, PySem.W.mg_of X G ea_NoNumber, eb_NoNumber, ec_NoNumber, ed_NoNumber, ee_NoNumber⟩
  have e := hfa.symm.trans m_law
  cases e
  refine ⟨PySem.W.fnOf "law" "law" (defArgs s_law) (defBody s_law) (defScope s_law) .none kV_law dc_law pm_law an_law cd_law ct_law, fun s v => .of_eq rfl, fun base _ _ => ?_⟩
  have key : ∃ f fd, FnOk l.prog w K mg base (L2.CX l.prog w) 8 f fd ["script"] (Spec K mg rLaw) ∧ mg "law" = some (.ref f) ∧ fd = PySem.W.fnOf "law" "law" (defArgs s_law) (defBody s_law) (defScope s_law) .none kV_law dc_law pm_law an_law cd_law ct_law := by
    have g_on := ok_on (P := l.prog) (w := w) (base := base) F_on m_on b_on
    have g__law_cell := ok_cell (P := l.prog) (w := w) (base := base) F__law_cell m__law_cell b__law_cell (by with_reducible assumption)
    have g__law_prime := ok_prime (P := l.prog) (w := w) (base := base) F__law_prime m__law_prime b__law_prime (by with_reducible assumption) (by with_reducible assumption)
    have g__law_digits := ok_digits (P := l.prog) (w := w) (base := base) F__law_digits m__law_digits b__law_digits (by with_reducible assumption) (by with_reducible assumption)
    have g_back := ok_back (P := l.prog) (w := w) (base := base) F_back m_back b_back (by with_reducible assumption) (by with_reducible assumption)
    have g_lead_of := ok_lead (P := l.prog) (w := w) (base := base) F_lead_of m_lead_of b_lead_of (by with_reducible assumption) (by with_reducible assumption)
    have g_less := ok_less (P := l.prog) (w := w) (base := base) F_less m_less b_less (by with_reducible assumption) (by with_reducible assumption) (by with_reducible assumption)
    have g_rest_by := ok_rest (P := l.prog) (w := w) (base := base) F_rest_by m_rest_by b_rest_by (by with_reducible assumption) (by with_reducible assumption)
    have g_with_row := ok_with (P := l.prog) (w := w) (base := base) F_with_row m_with_row b_with_row (by with_reducible assumption) (by with_reducible assumption) (by with_reducible assumption) (by with_reducible assumption) (by with_reducible assumption) (by with_reducible assumption) (by with_reducible assumption) (by with_reducible assumption)
    have g_steps_form := ok_steps (P := l.prog) (w := w) (base := base) F_steps_form m_steps_form b_steps_form (by with_reducible assumption)
    have g_with_weights := ok_weights (P := l.prog) (w := w) (base := base) F_with_weights m_with_weights b_with_weights (by with_reducible assumption) (by with_reducible assumption) (by with_reducible assumption) (by with_reducible assumption) (by with_reducible assumption)
    have g_idle_sums := ok_idle_sums (P := l.prog) (w := w) (base := base) F_idle_sums m_idle_sums b_idle_sums (by with_reducible assumption) (by with_reducible assumption) (by with_reducible assumption)
    have g_shut_off := ok_shut (P := l.prog) (w := w) (base := base) F_shut_off m_shut_off b_shut_off (by with_reducible assumption) (by with_reducible assumption) (by with_reducible assumption) (by with_reducible assumption) (by with_reducible assumption) (by with_reducible assumption) (by with_reducible assumption)
    have g_solved := ok_solved (P := l.prog) (w := w) (base := base) F_solved m_solved b_solved (by with_reducible assumption) (by with_reducible assumption) (by with_reducible assumption) (by with_reducible assumption) (by with_reducible assumption) (by with_reducible assumption) (by with_reducible assumption)
    have g__law_back := ok_lback (P := l.prog) (w := w) (base := base) F__law_back m__law_back b__law_back
    have g__law_cleared := ok_cleared (P := l.prog) (w := w) (base := base) F__law_cleared m__law_cleared b__law_cleared (by with_reducible assumption) (by with_reducible assumption)
    have g__law_reduced := ok_reduced (P := l.prog) (w := w) (base := base) F__law_reduced m__law_reduced b__law_reduced (by with_reducible assumption) (by with_reducible assumption) (by with_reducible assumption) (by with_reducible assumption) (by with_reducible assumption) (by with_reducible assumption)
    have g__law_idle := ok_lidle (P := l.prog) (w := w) (base := base) F__law_idle m__law_idle b__law_idle (by with_reducible assumption) (by with_reducible assumption) (by with_reducible assumption)
    have g__law_number := ok_number (P := l.prog) (w := w) (base := base) F__law_number m__law_number b__law_number (by with_reducible assumption) (by with_reducible assumption)
    have g__law_tells := ok_tells (P := l.prog) (w := w) (base := base) F__law_tells m__law_tells b__law_tells (by with_reducible assumption) (by with_reducible assumption) (by with_reducible assumption) (by with_reducible assumption) (by with_reducible assumption) (by with_reducible assumption)
    have g_law := ok_law (P := l.prog) (w := w) (base := base) F_law m_law b_law (by with_reducible assumption) (by with_reducible assumption) (by with_reducible assumption) (by with_reducible assumption) (by with_reducible assumption) (by with_reducible assumption) (by with_reducible assumption) (by with_reducible assumption) (by with_reducible assumption) (by with_reducible assumption) (by with_reducible assumption) (by with_reducible assumption) (by with_reducible assumption) (by with_reducible assumption)
    exact g_law.withFd m_law l_law
  obtain ⟨f, fd, hF, e1, e2⟩ := key
  have e3 := hfa.symm.trans e1
  cases e3
  subst e2
  refine hF.imp fun vs H Q E hsp => ?_
  obtain ⟨a, ns, rfl, hS, hlen, q⟩ := hsp
  refine ⟨H, [.list (ns.map .int)], .ok (.dat (.bool true)), Same.refl H, .cons (.lst hS (dpAll_ints ns)) .nil, .mk hlen, fun v I' H' g hv => ?_⟩
  rw [dp_bool hv]
  exact q H'
end W
open PySem PySem.W PyProof.Rows
set_option maxHeartbeats 0 in
theorem PySem.Challenge.cw_longrounds_k96_whole_any_rows_holds : PySem.Challenge.rw_longrounds_k96_whole_any_rows.Holds := by
  w_on; o_law; k_head; (case hw => w_witness2)
  k_fill
  refine L2.walk_of (l := PySem.Challenge.rw_longrounds_k96_whole_any_rows) (n := 63) (k := 8) (x := "script") (CX := fun w => L2.CX (PySem.Challenge.rw_longrounds_k96_whole_any_rows).prog w) (sp := fun w => W.spL _) rfl (by decide) rfl ⟨rfl, by decide, by decide⟩ (fun w h Y => PySem.W.kIn_of Y) ?F (fun _ _ a ns hl _ hS => ⟨a, ns, rfl, hS, hl, fun _ => rfl⟩) (fun _ _ _ _ _ h => by
    obtain ⟨_, _, _, _, _, _, _, _, _, _, _, _, z⟩ := h
    exact z.elim)
  case F =>
    intro w mg fa h KX G hmg
    refine' W.all_mk KX G hmg ?a_on ?l_on ?c_on ?k_on ?a__law_cell ?l__law_cell ?c__law_cell ?k__law_cell ?a__law_prime ?l__law_prime ?c__law_prime ?k__law_prime ?a__law_digits ?l__law_digits ?c__law_digits ?k__law_digits ?a_back ?l_back ?c_back ?k_back ?a_lead_of ?l_lead_of ?c_lead_of ?k_lead_of ?a_less ?l_less ?c_less ?k_less ?a_rest_by ?l_rest_by ?c_rest_by ?k_rest_by ?a_with_row ?l_with_row ?c_with_row ?k_with_row ?a_steps_form ?l_steps_form ?c_steps_form ?k_steps_form ?a_with_weights ?l_with_weights ?c_with_weights ?k_with_weights ?a_idle_sums ?l_idle_sums ?c_idle_sums ?k_idle_sums ?a_shut_off ?l_shut_off ?c_shut_off ?k_shut_off ?a_solved ?l_solved ?c_solved ?k_solved ?a__law_back ?l__law_back ?c__law_back ?k__law_back ?a__law_cleared ?l__law_cleared ?c__law_cleared ?k__law_cleared ?a__law_reduced ?l__law_reduced ?c__law_reduced ?k__law_reduced ?a__law_idle ?l__law_idle ?c__law_idle ?k__law_idle ?a__law_number ?l__law_number ?c__law_number ?k__law_number ?a__law_tells ?l__law_tells ?c__law_tells ?k__law_tells ?a_law ?l_law ?c_law ?k_law ?z_abs ?z_any ?z_int ?z_isinstance ?z_len ?z_list ?z_range ?z_sorted ?z_sum ?z_tuple ?z_zip ?ea_NoNumber ?eb_NoNumber ?ec_NoNumber ?ed_NoNumber ?ee_NoNumber
    (case a_on => k_is)
    (case l_on => k_is)
    (case c_on => k_is)
    (case k_on => k_is)
    (case a__law_cell => k_is)
    (case l__law_cell => k_is)
    (case c__law_cell => k_is)
    (case k__law_cell => k_is)
    (case a__law_prime => k_is)
    (case l__law_prime => k_is)
    (case c__law_prime => k_is)
    (case k__law_prime => k_is)
    (case a__law_digits => k_is)
    (case l__law_digits => k_is)
    (case c__law_digits => k_is)
    (case k__law_digits => k_is)
    (case a_back => k_is)
    (case l_back => k_is)
    (case c_back => k_is)
    (case k_back => k_is)
    (case a_lead_of => k_is)
    (case l_lead_of => k_is)
    (case c_lead_of => k_is)
    (case k_lead_of => k_is)
    (case a_less => k_is)
    (case l_less => k_is)
    (case c_less => k_is)
    (case k_less => k_is)
    (case a_rest_by => k_is)
    (case l_rest_by => k_is)
    (case c_rest_by => k_is)
    (case k_rest_by => k_is)
    (case a_with_row => k_is)
    (case l_with_row => k_is)
    (case c_with_row => k_is)
    (case k_with_row => k_is)
    (case a_steps_form => k_is)
    (case l_steps_form => k_is)
    (case c_steps_form => k_is)
    (case k_steps_form => k_is)
    (case a_with_weights => k_is)
    (case l_with_weights => k_is)
    (case c_with_weights => k_is)
    (case k_with_weights => k_is)
    (case a_idle_sums => k_is)
    (case l_idle_sums => k_is)
    (case c_idle_sums => k_is)
    (case k_idle_sums => k_is)
    (case a_shut_off => k_is)
    (case l_shut_off => k_is)
    (case c_shut_off => k_is)
    (case k_shut_off => k_is)
    (case a_solved => k_is)
    (case l_solved => k_is)
    (case c_solved => k_is)
    (case k_solved => k_is)
    (case a__law_back => k_is)
    (case l__law_back => k_is)
    (case c__law_back => k_is)
    (case k__law_back => k_is)
    (case a__law_cleared => k_is)
    (case l__law_cleared => k_is)
    (case c__law_cleared => k_is)
    (case k__law_cleared => k_is)
    (case a__law_reduced => k_is)
    (case l__law_reduced => k_is)
    (case c__law_reduced => k_is)
    (case k__law_reduced => k_is)
    (case a__law_idle => k_is)
    (case l__law_idle => k_is)
    (case c__law_idle => k_is)
    (case k__law_idle => k_is)
    (case a__law_number => k_is)
    (case l__law_number => k_is)
    (case c__law_number => k_is)
    (case k__law_number => k_is)
    (case a__law_tells => k_is)
    (case l__law_tells => k_is)
    (case c__law_tells => k_is)
    (case k__law_tells => k_is)
    (case a_law => k_is)
    (case l_law => k_is)
    (case c_law => k_is)
    (case k_law => k_is)
    (case z_abs => k_is)
    (case z_any => k_is)
    (case z_int => k_is)
    (case z_isinstance => k_is)
    (case z_len => k_is)
    (case z_list => k_is)
    (case z_range => k_is)
    (case z_sorted => k_is)
    (case z_sum => k_is)
    (case z_tuple => k_is)
    (case z_zip => k_is)
    (case ea_NoNumber => k_is)
    (case eb_NoNumber => k_exc)
    (case ec_NoNumber => k_is)
    (case ed_NoNumber => k_is)
    (case ee_NoNumber => k_is)
