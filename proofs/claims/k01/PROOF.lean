import PyProof.Rows.All
import Wide.All
import OpenK.AllK
import Wide.FinOn
import HandS.ForMost
import HandS.ForExc
import HandS.IsInst
import HandS.TupAny
import HandS.Wide
import HandS.Exc
import HandS.ExcOwn
import HandS.TupMul
import HandS.Iter
import HandS.TryOnly
import HandS.Style
import HandS.Deep
import HandS.Rev
import HandS.Zip
import HandS.ExcIs
import HandS.SortKw
import KE.SortKeyHeap
import KE.GoesMore
import KE.GoesZip
import HandS.SetFor
import KE.KTupSum
import HandS.More
import HandS.Dict
import HandS.Conv
import PySem.Challenge.RW_longrounds_k01_primes
set_option Elab.async false
set_option linter.all false
set_option maxRecDepth 100000
set_option maxHeartbeats 4000000
set_option Elab.async false
set_option linter.all false
set_option maxRecDepth 100000
set_option maxHeartbeats 4000000
/-! The layer LR, part a: data on the heap, cells, what is kept, judgements of expressions. -/
namespace LR
open PySem PySem.Spec PyProof.Rows L2

/-- an object of the def's own that may still change -/
inductive Ob where
  | lst (ds : List PyData)
  | dct (kvs : List (Key × PyData))
  | dtt (kvs : List (List Key × PyData))
/-- what is known of a name (rf: it holds that reference; tpo: of results alone: a new tuple of data ds and behind them a new list es; kn: that reference, which is such data) -/
inductive C where
  | un
  | dat (d : PyData)
  | own (o : Ob)
  | rf (a : Addr)
  | tpo (ds es : List PyData)
  | kn (a : Addr) (d : PyData)

/-! data on the heap; tuples are tracked objects -/
mutual
inductive Dp (K : PySem.W.Frag) (H : Hp) : V → PyData → Prop
  | non : Dp K H .non .none
  | bl (b : Bool) : Dp K H (.bl b) (.bool b)
  | int (i : Int) : Dp K H (.int i) (.int i)
  | str (x : Str) : Dp K H (.str x) (.str x)
  | lst {a : Addr} {xs : List V} {ds : List PyData} : SqL K H a xs → DpAll K H xs ds → Dp K H (.ref a) (.list ds)
  | tup {a : Addr} {xs : List V} {ds : List PyData} : H a = some (.tup xs) → DpAll K H xs ds → Dp K H (.ref a) (.tuple ds)
  | dic {a : Addr} {kvs : List (Key × V)} : H a = some (.dK kvs) → Dp K H (.ref a) (.dict [])
inductive DpAll (K : PySem.W.Frag) (H : Hp) : List V → List PyData → Prop
  | nil : DpAll K H [] []
  | cons {v : V} {vs : List V} {d : PyData} {ds : List PyData} : Dp K H v d → DpAll K H vs ds → DpAll K H (v :: vs) (d :: ds)
end
section
variable {K : PySem.W.Frag}
mutual
theorem Dp.kit0 {H : Hp} : ∀ {v : V} {d : PyData}, Dp K H v d → d.canLay0 = true → L2.Dp K H v d
  | _, _, .non, _ => .non
  | _, _, .bl b, _ => .bl b
  | _, _, .int i, _ => .int i
  | _, _, .str x, _ => .str x
  | _, _, .lst h a, l => .lst h (DpAll.kit0 a (by simpa [PyData.canLay0] using l))
  | _, _, .tup h a, l => .tup (.inl (.inl h)) (DpAll.kit0 a (by simpa [PyData.canLay0] using l))
  | _, _, .dic h, l => by simp [PyData.canLay0] at l
theorem DpAll.kit0 {H : Hp} : ∀ {vs : List V} {ds : List PyData}, DpAll K H vs ds → PyData.canLayAll0 ds = true → L2.DpAll K H vs ds
  | _, _, .nil, _ => .nil
  | _, _, .cons h t, l => by
    simp only [PyData.canLayAll0, Bool.and_eq_true] at l
    exact .cons (Dp.kit0 h l.1) (DpAll.kit0 t l.2)
end
theorem Dp.kit {H : Hp} {v : V} {d : PyData} (h : Dp K H v d) (s : SeqAt.shaped d = true) : L2.Dp K H v d := h.kit0 (by
  unfold SeqAt.shaped at s
  rw [Bool.and_eq_true] at s
  exact s.1)
mutual
theorem dp_mono {H H' : Hp} (e : Same H H') : ∀ {v : V} {d : PyData}, Dp K H v d → Dp K H' v d
  | _, _, .non => .non
  | _, _, .bl b => .bl b
  | _, _, .int i => .int i
  | _, _, .str x => .str x
  | _, _, .lst h a => .lst (e.seq h) (dpAll_mono e a)
  | _, _, .tup h a => .tup (e _ _ h) (dpAll_mono e a)
  | _, _, .dic h => .dic (e _ _ h)
theorem dpAll_mono {H H' : Hp} (e : Same H H') : ∀ {vs : List V} {ds : List PyData}, DpAll K H vs ds → DpAll K H' vs ds
  | _, _, .nil => .nil
  | _, _, .cons h t => .cons (dp_mono e h) (dpAll_mono e t)
end
theorem same_l {H H' : Hp} {a : Addr} {xs : List V} (e : Same H H') (h : SqL K H a xs) : SqL K H' a xs := e.seq h
theorem same_t {H H' : Hp} {a : Addr} {xs : List V} (e : Same H H') (h : SqT K H a xs) : SqT K H' a xs := by
  rcases h with (h | ⟨o, h⟩) | h
  · exact .inl (.inl (e _ _ h))
  · exact .inl (.inr ⟨o, e _ _ h⟩)
  · exact .inr h
theorem dpAll_len {H : Hp} : ∀ {vs : List V} {ds : List PyData}, DpAll K H vs ds → vs.length = ds.length
  | _, _, .nil => rfl
  | _, _, .cons _ t => by rw [List.length_cons, List.length_cons, dpAll_len t]
theorem dpAll_get {H : Hp} : ∀ {vs : List V} {ds : List PyData}, DpAll K H vs ds → ∀ {i : Nat} {d : PyData}, ds[i]? = some d → ∃ v, vs[i]? = some v ∧ Dp K H v d
  | _, _, .nil, _, _, e => by simp at e
  | _, _, .cons h _, 0, _, e => by simp at e; subst e; exact ⟨_, rfl, h⟩
  | _, _, .cons _ t, i + 1, d, e => by
    obtain ⟨v, h1, h2⟩ := dpAll_get t (i := i) (d := d) (by simpa using e)
    exact ⟨v, by simpa using h1, h2⟩
theorem dpAll_getV {H : Hp} : ∀ {vs : List V} {ds : List PyData}, DpAll K H vs ds → ∀ {i : Nat} {v : V}, vs[i]? = some v → ∃ d, ds[i]? = some d ∧ Dp K H v d
  | _, _, .nil, _, _, e => by simp at e
  | _, _, .cons h _, 0, _, e => by simp at e; subst e; exact ⟨_, rfl, h⟩
  | _, _, .cons _ t, i + 1, d, e => by
    obtain ⟨v, h1, h2⟩ := dpAll_getV t (i := i) (v := d) (by simpa using e)
    exact ⟨v, by simpa using h1, h2⟩
theorem dpAll_append {H : Hp} : ∀ {vs ws : List V} {ds es : List PyData}, DpAll K H vs ds → DpAll K H ws es → DpAll K H (vs ++ ws) (ds ++ es)
  | _, _, _, _, .nil, s => s
  | _, _, _, _, .cons h t, s => .cons h (dpAll_append t s)
theorem dpAll_one {H : Hp} {v : V} {d : PyData} (h : Dp K H v d) : DpAll K H [v] [d] := .cons h .nil
theorem dpAll_take {H : Hp} : ∀ {vs : List V} {ds : List PyData} (n : Nat), DpAll K H vs ds → DpAll K H (vs.take n) (ds.take n)
  | _, _, 0, _ => .nil
  | _, _, _ + 1, .nil => .nil
  | _, _, n + 1, .cons h t => .cons h (dpAll_take n t)
theorem dpAll_drop {H : Hp} : ∀ {vs : List V} {ds : List PyData} (n : Nat), DpAll K H vs ds → DpAll K H (vs.drop n) (ds.drop n)
  | _, _, 0, h => h
  | _, _, _ + 1, .nil => .nil
  | _, _, n + 1, .cons _ t => dpAll_drop n t
theorem dpAll_set {H : Hp} {v : V} {d : PyData} (h : Dp K H v d) : ∀ {vs : List V} {ds : List PyData} (n : Nat), DpAll K H vs ds → DpAll K H (vs.set n v) (ds.set n d)
  | _, _, _, .nil => .nil
  | _, _, 0, .cons _ t => .cons h t
  | _, _, n + 1, .cons q t => .cons q (dpAll_set h n t)
theorem dpAll_dropLast {H : Hp} {vs : List V} {ds : List PyData} (h : DpAll K H vs ds) : DpAll K H vs.dropLast ds.dropLast := by
  rw [List.dropLast_eq_take, List.dropLast_eq_take, dpAll_len h]
  exact dpAll_take _ h
theorem dpAll_reverse {H : Hp} : ∀ {vs : List V} {ds : List PyData}, DpAll K H vs ds → DpAll K H vs.reverse ds.reverse
  | _, _, .nil => .nil
  | _, _, .cons h t => by
    rw [List.reverse_cons, List.reverse_cons]
    exact dpAll_append (dpAll_reverse t) (dpAll_one h)
theorem dpAll_ints {H : Hp} : ∀ (ns : List Int), DpAll K H (ns.map V.int) (ns.map PyData.int)
  | [] => .nil
  | n :: r => .cons (.int n) (dpAll_ints r)
theorem dp_int {H : Hp} {v : V} {i : Int} (h : Dp K H v (.int i)) : v = .int i := by cases h; rfl
theorem dp_str {H : Hp} {v : V} {x : Str} (h : Dp K H v (.str x)) : v = .str x := by cases h; rfl
theorem dp_bool {H : Hp} {v : V} {b : Bool} (h : Dp K H v (.bool b)) : v = .bl b := by cases h; rfl
theorem dp_none {H : Hp} {v : V} (h : Dp K H v .none) : v = .non := by cases h; rfl
theorem dp_tup {H : Hp} {v : V} {ds : List PyData} (h : Dp K H v (.tuple ds)) : ∃ a xs, v = .ref a ∧ SqT K H a xs ∧ DpAll K H xs ds := by cases h; exact ⟨_, _, rfl, .inl (.inl (by assumption)), by assumption⟩
theorem dp_tupH {H : Hp} {v : V} {ds : List PyData} (h : Dp K H v (.tuple ds)) : ∃ a xs, v = .ref a ∧ H a = some (.tup xs) ∧ DpAll K H xs ds := by cases h; exact ⟨_, _, rfl, by assumption, by assumption⟩
theorem dp_lst {H : Hp} {v : V} {ds : List PyData} (h : Dp K H v (.list ds)) : ∃ a xs, v = .ref a ∧ SqL K H a xs ∧ DpAll K H xs ds := by cases h; exact ⟨_, _, rfl, by assumption, by assumption⟩
theorem ints_of {H : Hp} : ∀ {vs : List V} {ns : List Int}, DpAll K H vs (ns.map PyData.int) → vs = ns.map V.int
  | _, [], .nil => rfl
  | _, n :: r, .cons h t => by rw [dp_int h, ints_of t]; rfl
theorem strs_of {H : Hp} : ∀ {vs : List V} {ns : List Str}, DpAll K H vs (ns.map PyData.str) → vs = ns.map V.str
  | _, [], .nil => rfl
  | _, n :: r, .cons h t => by rw [dp_str h, strs_of t]; rfl
theorem bls_of {H : Hp} : ∀ {vs : List V} {ns : List Bool}, DpAll K H vs (ns.map PyData.bool) → vs = ns.map V.bl
  | _, [], .nil => rfl
  | _, n :: r, .cons h t => by rw [dp_bool h, bls_of t]; rfl

def ObAt (K : PySem.W.Frag) (I : Hp) : HO → Ob → Prop
  | .lst vs, .lst ds => DpAll K I vs ds
  | .dK kvs, .dct es => kvs.map (·.1) = es.map (·.1) ∧ DpAll K I (kvs.map (·.2)) (es.map (·.2))
  | .dT kvs, .dtt es => kvs.map (·.1) = es.map (·.1) ∧ DpAll K I (kvs.map (·.2)) (es.map (·.2))
  | _, _ => False
theorem obAt_mono {I I' : Hp} (e : Same I I') : ∀ {o : HO} {b : Ob}, ObAt K I o b → ObAt K I' o b := by
  intro o b h
  cases o <;> cases b <;> first
    | exact dpAll_mono e h
    | exact ⟨h.1, dpAll_mono e h.2⟩
    | exact h
theorem obAt_lst {I : Hp} {o : HO} {ds : List PyData} (h : ObAt K I o (.lst ds)) : ∃ vs, o = .lst vs ∧ DpAll K I vs ds := by
  cases o <;> first | exact ⟨_, rfl, h⟩ | exact h.elim

/-- from (I, H) to (I', H'): nothing that stood has changed, and what is new in I' was new -/
structure Grow (I H I' H' : Hp) : Prop where
  ii : Same I I'
  hh : Same H H'
  ih : Same I' H'
  nw : ∀ q o, H q = some o → I q = none → I' q = none
theorem Grow.refl {I H : Hp} (e : Same I H) : Grow I H I H := ⟨Same.refl _, Same.refl _, e, fun _ _ _ h => h⟩
theorem Grow.trans {I H I1 H1 I2 H2 : Hp} (a : Grow I H I1 H1) (b : Grow I1 H1 I2 H2) : Grow I H I2 H2 :=
  ⟨a.ii.trans b.ii, a.hh.trans b.hh, b.ih, fun q o h n => b.nw q o (a.hh q o h) (a.nw q o h n)⟩
theorem Grow.ih0 {I H I' H' : Hp} (e : Same I H) (a : Grow I H I' H') : Same I H' := fun b o h => a.hh b o (e b o h)
/-- a new object, known to both -/
theorem Grow.new {I H : Hp} {p : Addr} {o : HO} (e : Same I H) (n : H p = none) : Grow I H (upd I p o) (upd H p o) where
  ii := fun b u h => by rw [upd_ne (ne_of_none h (e.free n))]; exact h
  hh := fun b u h => by rw [upd_ne (ne_of_none h n)]; exact h
  ih := fun b u h => by
    by_cases hb : b = p
    · subst hb; rw [upd_same] at h ⊢; exact h
    · rw [upd_ne hb] at h ⊢; exact e b u h
  nw := fun q u h n' => by rw [upd_ne (ne_of_none h n)]; exact n'
/-- a new object, known to the heap alone -/
theorem Grow.newH {I H : Hp} {p : Addr} {o : HO} (e : Same I H) (n : H p = none) : Grow I H I (upd H p o) where
  ii := Same.refl _
  hh := fun b u h => by rw [upd_ne (ne_of_none h n)]; exact h
  ih := fun b u h => by rw [upd_ne (ne_of_none (e b u h) n)]; exact e b u h
  nw := fun _ _ _ h => h
/-- an object that is new since, becomes known -/
theorem Grow.know {I H I' H' : Hp} {p : Addr} {o : HO} (g : Grow I H I' H') (n : H p = none) (n' : I' p = none) (h' : H' p = some o) : Grow I H (upd I' p o) H' where
  ii := fun b u h => by
    have h1 := g.ii b u h
    rw [upd_ne (ne_of_none h1 n')]; exact h1
  hh := g.hh
  ih := fun b u h => by
    by_cases hb : b = p
    · subst hb; rw [upd_same] at h; rw [← h]; exact h'
    · rw [upd_ne hb] at h; exact g.ih b u h
  nw := fun q u h m => by rw [upd_ne (ne_of_none h n)]; exact g.nw q u h m
/-- an object that is new since, and not known, changes -/
theorem Grow.mut {I H I' H' : Hp} {p : Addr} {o : HO} (g : Grow I H I' H') (n : H p = none) (n' : I' p = none) : Grow I H I' (upd H' p o) where
  ii := g.ii
  hh := fun b u h => by rw [upd_ne (ne_of_none h n)]; exact g.hh b u h
  ih := fun b u h => by rw [upd_ne (ne_of_none h n')]; exact g.ih b u h
  nw := g.nw

def CellAt (K : PySem.W.Frag) (H0 I H : Hp) (x : Option (Option V)) : C → Prop
  | .un => True
  | .dat d => ∃ v, x = some (some v) ∧ Dp K I v d
  | .own b => ∃ p o, x = some (some (.ref p)) ∧ H0 p = none ∧ I p = none ∧ H p = some o ∧ ObAt K I o b
  | .rf a => x = some (some (.ref a))
  | .tpo _ _ => True
  | .kn a d => x = some (some (.ref a)) ∧ Dp K I (.ref a) d
def isOwn : Option C → Prop
  | some (.own _) => True
  | _ => False
/-- the state A of the names holds -/
structure Rel (K : PySem.W.Frag) (I0 H0 : Hp) (A : List C) (σ : L2.St) (I H : Hp) : Prop where
  gr : Grow I0 H0 I H
  len : σ.length = A.length
  cell : ∀ (i : Nat) (c : C), A[i]? = some c → CellAt K H0 I H σ[i]? c
  apart : ∀ (i j : Nat) (p : Addr), i ≠ j → isOwn A[i]? → isOwn A[j]? → σ[i]? = some (some (.ref p)) → σ[j]? ≠ some (some (.ref p))
theorem Rel.grow {I0 H0 I H I' H' : Hp} {A : List C} {σ : L2.St} (r : Rel K I0 H0 A σ I H) (g : Grow I H I' H') : Rel K I0 H0 A σ I' H' where
  gr := r.gr.trans g
  len := r.len
  cell := fun i c h => by
    have q := r.cell i c h
    cases c with
    | un => trivial
    | dat d => obtain ⟨v, e, hd⟩ := q; exact ⟨v, e, dp_mono g.ii hd⟩
    | own b => obtain ⟨p, o, e, n0, n, ho, hb⟩ := q; exact ⟨p, o, e, n0, g.nw p o ho n, g.hh p o ho, obAt_mono g.ii hb⟩
    | rf a => exact q
    | tpo ds es => trivial
    | kn a d => exact ⟨q.1, dp_mono g.ii q.2⟩
  apart := r.apart
theorem Rel.ih {I0 H0 I H : Hp} {A : List C} {σ : L2.St} (r : Rel K I0 H0 A σ I H) : Same I H := r.gr.ih

/-- a result -/
def VR (K : PySem.W.Frag) (H I' H' : Hp) (v : V) : C → Prop
  | .un => True
  | .dat d => Dp K I' v d
  | .own b => ∃ p o, v = .ref p ∧ H p = none ∧ I' p = none ∧ H' p = some o ∧ ObAt K I' o b
  | .rf a => v = .ref a
  | .kn a d => v = .ref a ∧ Dp K I' v d
  | .tpo ds es => ∃ p q vs us, v = .ref p ∧ H p = none ∧ I' p = none ∧ H' p = some (.tup (vs ++ [.ref q])) ∧ DpAll K I' vs ds ∧ H q = none ∧ I' q = none ∧ H' q = some (.lst us) ∧ DpAll K I' us es
theorem VR.back {H1 H I' H' : Hp} {v : V} {c : C} (e : Same H1 H) (h : VR K H I' H' v c) : VR K H1 I' H' v c := by
  cases c with
  | un => trivial
  | dat d => exact h
  | own b => obtain ⟨p, o, e1, n, r⟩ := h; exact ⟨p, o, e1, e.free n, r⟩
  | rf a => exact h
  | kn a d => exact h
  | tpo ds es => obtain ⟨p, q, vs, us, e1, n1, n2, h1, a1, m1, m2, h2, a2⟩ := h; exact ⟨p, q, vs, us, e1, e.free n1, n2, h1, a1, e.free m1, m2, h2, a2⟩
end

/-! ### judgements -/
section
variable (X : Cx)
def Wx (e : Expr) (σ : L2.St) (H : Hp) (Q : VK) : Prop := ∀ (pins : List (Addr × Obj)) (s : Shared), Inv X pins σ H s → wpAny (model X.prog X.w) X.A (eval e X.env) (EP X pins σ Q) X.xe s
def Wt (e : Expr) (σ : L2.St) (H : Hp) (Q : Bool → Hp → Prop) : Prop := ∀ (pins : List (Addr × Obj)) (s : Shared), Inv X pins σ H s → wpAny (model X.prog X.w) X.A (isTrue e X.env (eval e X.env)) (TP X pins σ Q) X.xe s
def Ww (e : Expr) (σ : L2.St) (H : Hp) (Q : Bool → Hp → Prop) : Prop := ∀ (whole : Sem Value) (pins : List (Addr × Obj)) (s : Shared), Inv X pins σ H s → wpAny (model X.prog X.w) X.A (isTrue e X.env whole) (TP X pins σ Q) X.xe s
def Wa (es : List Expr) (σ : L2.St) (H : Hp) (Q : List V → Hp → Prop) : Prop := ∀ (pos : Pos) (pins : List (Addr × Obj)) (s : Shared), Inv X pins σ H s → wpAny (model X.prog X.w) X.A (spliced (backTo pos (starEach es X.env))) (AP X pins σ Q) X.xe s
def Ws (st : Stmt) (D : Ends) (σ : L2.St) (H : Hp) : Prop := ∀ (pins : List (Addr × Obj)) (s : Shared), Inv X pins σ H s → wpAny (model X.prog X.w) X.A (exec st X.env) (SP X pins D) X.xe s
def Wss (st : List Stmt) (D : Ends) (σ : L2.St) (H : Hp) : Prop := ∀ (pins : List (Addr × Obj)) (s : Shared), Inv X pins σ H s → wpAny (model X.prog X.w) X.A (execs st X.env) (SP X pins D) X.xe s
end
section
variable {X : Cx} {e a b : Expr} {es : List Expr} {t : TE} {σ : L2.St} {H : Hp} {Q : VK} {A : List C} {pos p : Pos}
theorem wx_pe : PE X e (Wx X e) := ⟨fun pins s σ H Q I h => h pins s I⟩
theorem wx_of (h : PE X e t) (q : t σ H Q) : Wx X e σ H Q := fun pins s I => h.run pins s σ H Q I q
theorem wt_pe : PT X e (Wt X e) := ⟨fun pins s σ H Q I h => h pins s I⟩
theorem wt_of {t : TT} {Q : Bool → Hp → Prop} (h : PT X e t) (q : t σ H Q) : Wt X e σ H Q := fun pins s I => h.run pins s σ H Q I q
theorem ww_pw : PW X e (Ww X e) := ⟨fun whole pins s σ H Q I h => h whole pins s I⟩
theorem ww_of {t : TT} {Q : Bool → Hp → Prop} (h : PW X e t) (q : t σ H Q) : Ww X e σ H Q := fun whole pins s I => h.run whole pins s σ H Q I q
theorem wa_pa : PA X es (Wa X es) := ⟨fun pos pins s σ H Q I h => h pos pins s I⟩
theorem wa_of {t : TA} {Q : List V → Hp → Prop} (h : PA X es t) (q : t σ H Q) : Wa X es σ H Q := fun pos pins s I => h.run pos pins s σ H Q I q
theorem ws_ps {st : Stmt} : PS X st (Ws X st) := ⟨fun pins s σ H D I h => h pins s I⟩
theorem ws_of {st : Stmt} {t : TS} {D : Ends} (h : PS X st t) (q : t D σ H) : Ws X st D σ H := fun pins s I => h.run pins s σ H D I q
theorem wss_pss {st : List Stmt} : PSs X st (Wss X st) := ⟨fun pins s σ H D I h => h pins s I⟩
theorem wss_of {st : List Stmt} {t : TS} {D : Ends} (h : PSs X st t) (q : t D σ H) : Wss X st D σ H := fun pins s I => h.run pins s σ H D I q

variable (X)
/-- the expression evaluates to c -/
def Ev (A : List C) (e : Expr) (c : C) : Prop := ∀ I0 H0 σ I H, Rel X.K I0 H0 A σ I H → ∀ Q : VK, (∀ v I' H', Grow I H I' H' → VR X.K H I' H' v c → Q v H') → Wx X e σ H Q
/-- .. to a list (true), a tuple (false), that is read only -/
def EvS (A : List C) (e : Expr) (k : Bool) (ds : List PyData) : Prop := ∀ I0 H0 σ I H, Rel X.K I0 H0 A σ I H → ∀ Q : VK,
  (∀ p vs I' H', Grow I H I' H' → (if k then SqL X.K H' p vs else SqT X.K H' p vs) → DpAll X.K I' vs ds → Q (.ref p) H') → Wx X e σ H Q
def EvA (A : List C) (es : List Expr) (ds : List PyData) : Prop := ∀ I0 H0 σ I H, Rel X.K I0 H0 A σ I H → ∀ Q : List V → Hp → Prop, (∀ vs I' H', Grow I H I' H' → DpAll X.K I' vs ds → Q vs H') → Wa X es σ H Q
def Et (A : List C) (e : Expr) (b : Bool) : Prop := ∀ I0 H0 σ I H, Rel X.K I0 H0 A σ I H → ∀ Q : Bool → Hp → Prop, (∀ I' H', Grow I H I' H' → Q b H') → Wt X e σ H Q
def Ew (A : List C) (e : Expr) (b : Bool) : Prop := ∀ I0 H0 σ I H, Rel X.K I0 H0 A σ I H → ∀ Q : Bool → Hp → Prop, (∀ I' H', Grow I H I' H' → Q b H') → Ww X e σ H Q
variable {X}

theorem ev_int {i : Int} {j} : Ev X A (.Constant (.int i) j pos) (.dat (.int i)) := fun _ _ _ I H r Q q => wx_of pe_int (q _ I H (.refl r.ih) (Dp.int i))
theorem ev_bl {i : Bool} {j} : Ev X A (.Constant (.bool i) j pos) (.dat (.bool i)) := fun _ _ _ I H r Q q => wx_of pe_bl (q _ I H (.refl r.ih) (Dp.bl i))
theorem ev_str {i : Str} {j} : Ev X A (.Constant (.str i) j pos) (.dat (.str i)) := fun _ _ _ I H r Q q => wx_of pe_str (q _ I H (.refl r.ih) (Dp.str i))
theorem ev_non {j} : Ev X A (.Constant .none j pos) (.dat .none) := fun _ _ _ I H r Q q => wx_of pe_non (q _ I H (.refl r.ih) Dp.non)
theorem ev_name (i : Nat) {x : Str} {d : PyData} (hN : X.N[i]? = some x) (hA : A[i]? = some (.dat d)) (hv : Vis X.env.scope x) (hd : (x == ("__debug__" : Str)) = false := by decide)
    (hcd : (x == ("__classdict__" : Str)) = false := by decide) : Ev X A (.Name x pos) (.dat d) := fun _ _ σ I H r Q q => by
  obtain ⟨v, e, hd'⟩ := r.cell i _ hA
  exact wx_of (pe_var hN hv hd hcd) ⟨v, e, q v I H (.refl r.ih) hd'⟩
/-- a fresh list as data -/
theorem ev_frz {ds : List PyData} (h : Ev X A e (.own (.lst ds))) : Ev X A e (.dat (.list ds)) := fun I0 H0 σ I H r Q q =>
  h I0 H0 σ I H r Q fun v I' H' g hv => by
    obtain ⟨p, o, rfl, n, n', h', hb⟩ := hv
    obtain ⟨vs, rfl, ha⟩ := obAt_lst hb
    have g2 := g.know (o := .lst vs) n n' h'
    have s2 : Same I' (upd I' p (.lst vs)) := fun b u z => by rw [upd_ne (ne_of_none z n')]; exact z
    exact q _ _ _ g2 (.lst (.inl (.inl upd_same)) (dpAll_mono s2 ha))
theorem ev_eq {c c' : C} (h : Ev X A e c) (hc : c = c') : Ev X A e c' := hc ▸ h
/-! read lists and tuples -/
theorem evs_own (i : Nat) {x : Str} {ds : List PyData} (hN : X.N[i]? = some x) (hA : A[i]? = some (.own (.lst ds))) (hv : Vis X.env.scope x) (hd : (x == ("__debug__" : Str)) = false := by decide)
    (hcd : (x == ("__classdict__" : Str)) = false := by decide) : EvS X A (.Name x pos) true ds := fun _ _ σ I H r Q q => by
  obtain ⟨p, o, e, _, _, ho, hb⟩ := r.cell i _ hA
  obtain ⟨vs, rfl, ha⟩ := obAt_lst hb
  exact wx_of (pe_var hN hv hd hcd) ⟨.ref p, e, q p vs I H (.refl r.ih) (.inl (.inl ho)) ha⟩
theorem evs_new {ds : List PyData} (h : Ev X A e (.own (.lst ds))) : EvS X A e true ds := fun I0 H0 σ I H r Q q =>
  h I0 H0 σ I H r Q fun v I' H' g hv => by
    obtain ⟨p, o, rfl, _, _, h', hb⟩ := hv
    obtain ⟨vs, rfl, ha⟩ := obAt_lst hb
    exact q p vs I' H' g (.inl (.inl h')) ha
theorem evs_lst {ds : List PyData} (h : Ev X A e (.dat (.list ds))) : EvS X A e true ds := fun I0 H0 σ I H r Q q =>
  h I0 H0 σ I H r Q fun v I' H' g hv => by
    obtain ⟨p, vs, rfl, hs, ha⟩ := dp_lst hv
    exact q p vs I' H' g (same_l g.ih hs) ha
theorem evs_tup {ds : List PyData} (h : Ev X A e (.dat (.tuple ds))) : EvS X A e false ds := fun I0 H0 σ I H r Q q =>
  h I0 H0 σ I H r Q fun v I' H' g hv => by
    obtain ⟨p, vs, rfl, hs, ha⟩ := dp_tup hv
    exact q p vs I' H' g (same_t g.ih hs) ha
/-! arguments -/
theorem ea_nil : EvA X A [] [] := fun _ _ _ I H r Q q => wa_of pa_nil (q [] I H (.refl r.ih) .nil)
theorem ea_cons {d : PyData} {ds : List PyData} (h1 : Ev X A e (.dat d)) (h2 : EvA X A es ds) (hs : starEach (e :: es) X.env = (false, eval e X.env) :: starEach es X.env := by rfl) : EvA X A (e :: es) (d :: ds) := fun I0 H0 σ I H r Q q =>
  wa_of (pa_cons wx_pe wa_pa hs) (h1 I0 H0 σ I H r _ fun v I1 H1 g1 hv => h2 I0 H0 σ I1 H1 (r.grow g1) _ fun vs I2 H2 g2 hvs => q _ I2 H2 (g1.trans g2) (.cons (dp_mono g2.ii hv) hvs))
/-! operators -/
/-- what an operation on two data gives -/
def Bin (X : Cx) (r : R2) (d1 d2 : PyData) (c : C) : Prop := ∀ I H v w, Same I H → Dp X.K I v d1 → Dp X.K I w d2 → ∀ Q : VK, (∀ u I' H', Grow I H I' H' → VR X.K H I' H' u c → Q u H') → r v w H Q
def Una (X : Cx) (r : V → Hp → VK → Prop) (d1 : PyData) (c : C) : Prop := ∀ I H v, Same I H → Dp X.K I v d1 → ∀ Q : VK, (∀ u I' H', Grow I H I' H' → VR X.K H I' H' u c → Q u H') → r v H Q
theorem bin_run {ta tb : Expr} {r : R2} {d1 d2 : PyData} {c : C} (h1 : Ev X A ta (.dat d1)) (h2 : Ev X A tb (.dat d2)) (hr : Bin X r d1 d2 c) {I0 H0 : Hp} {I : Hp} (rl : Rel X.K I0 H0 A σ I H) (q : ∀ v I' H', Grow I H I' H' → VR X.K H I' H' v c → Q v H') :
    tOp r (Wx X ta) (Wx X tb) σ H Q :=
  h1 I0 H0 σ I H rl _ fun v I1 H1 g1 hv => h2 I0 H0 σ I1 H1 (rl.grow g1) _ fun w I2 H2 g2 hw => hr I2 H2 v w g2.ih (dp_mono g2.ii hv) hw Q fun u I3 H3 g3 hu =>
    q u I3 H3 ((g1.trans g2).trans g3) (hu.back (g1.trans g2).hh)
theorem ev_op {op : Operator} {r : R2} {d1 d2 : PyData} {c : C} (ho : OpR X (binaryOp op) r) (h1 : Ev X A a (.dat d1)) (h2 : Ev X A b (.dat d2)) (hr : Bin X r d1 d2 c) : Ev X A (.BinOp a op b pos) c :=
  fun _ _ _ _ _ rl _ q => wx_of (pe_op ho wx_pe wx_pe) (bin_run h1 h2 hr rl q)
theorem ev_cmp {op : CmpOp} {r : R2} {d1 d2 : PyData} {c : C} (ho : OpR X (compareOp op) r) (h1 : Ev X A a (.dat d1)) (h2 : Ev X A b (.dat d2)) (hr : Bin X r d1 d2 c) (hm : behindInMarks op b = false) : Ev X A (.Compare a [op] [b] pos) c :=
  fun _ _ _ _ _ rl _ q => wx_of (pe_cmpR ho wx_pe wx_pe hm) (bin_run h1 h2 hr rl q)
theorem ev_un {op : UnaryOp} {r : V → Hp → VK → Prop} {d1 : PyData} {c : C} (ho : UnR X (unaryOp op) r) (h1 : Ev X A a (.dat d1)) (hr : Una X r d1 c) : Ev X A (.UnaryOp op a pos) c :=
  fun I0 H0 σ I H rl Q q => wx_of (pe_un ho wx_pe) (h1 I0 H0 σ I H rl _ fun v I1 H1 g1 hv => hr I1 H1 v g1.ih hv Q fun u I2 H2 g2 hu => q u I2 H2 (g1.trans g2) (hu.back g1.hh))
theorem ev_ix {r : R2} {d1 d2 : PyData} {c : C} (ho : IxR X r) (h1 : Ev X A a (.dat d1)) (h2 : Ev X A b (.dat d2)) (hr : Bin X r d1 d2 c) (hs : PlainIx b) : Ev X A (.Subscript a b pos) c :=
  fun _ _ _ _ _ rl _ q => wx_of (pe_ix ho wx_pe wx_pe hs) (bin_run h1 h2 hr rl q)
/-- the results that are plain -/
theorem bin_val {r : R2} {d1 d2 d : PyData} (h : ∀ I H v w, Same I H → Dp X.K I v d1 → Dp X.K I w d2 → ∀ Q : VK, (∀ u, Dp X.K I u d → Q u H) → r v w H Q) : Bin X r d1 d2 (.dat d) :=
  fun I H v w s h1 h2 Q q => h I H v w s h1 h2 Q fun u hu => q u I H (.refl s) hu
theorem bI0 {g : Int → Int → V} {i j : Int} {d : PyData} (hg : ∀ I, Dp X.K I (g i j) d) : Bin X (rI0 g) (.int i) (.int j) (.dat d) := bin_val fun I H v w s h1 h2 Q q => ⟨i, j, dp_int h1, dp_int h2, q _ (hg I)⟩
theorem bI {R : Int → Int → Prop} {g : Int → Int → V} {i j : Int} {d : PyData} (hc : R i j) (hg : ∀ I, Dp X.K I (g i j) d) : Bin X (rI R g) (.int i) (.int j) (.dat d) := bin_val fun I H v w s h1 h2 Q q => ⟨i, j, dp_int h1, dp_int h2, hc, q _ (hg I)⟩
theorem ev_add {i j : Int} (h1 : Ev X A a (.dat (.int i))) (h2 : Ev X A b (.dat (.int j))) : Ev X A (.BinOp a .Add b pos) (.dat (.int (i + j))) := ev_op op_add h1 h2 (bI0 fun _ => .int _)
theorem ev_sub {i j : Int} (h1 : Ev X A a (.dat (.int i))) (h2 : Ev X A b (.dat (.int j))) : Ev X A (.BinOp a .Sub b pos) (.dat (.int (i - j))) := ev_op op_sub h1 h2 (bI0 fun _ => .int _)
theorem ev_mul {i j : Int} (h1 : Ev X A a (.dat (.int i))) (h2 : Ev X A b (.dat (.int j))) (hc : CMul i j) : Ev X A (.BinOp a .Mult b pos) (.dat (.int (i * j))) := ev_op op_mul h1 h2 (bI hc fun _ => .int _)
theorem ev_mod {i j : Int} (h1 : Ev X A a (.dat (.int i))) (h2 : Ev X A b (.dat (.int j))) (hc : 0 < j) : Ev X A (.BinOp a .Mod b pos) (.dat (.int (i % j))) := ev_op op_modN h1 h2 (bI (Int.ne_of_gt hc) fun _ => by
  rw [Int.fmod_eq_emod_of_nonneg _ (Int.le_of_lt hc)]; exact .int _)
theorem ev_div {i j : Int} (h1 : Ev X A a (.dat (.int i))) (h2 : Ev X A b (.dat (.int j))) (hc : 0 < j) (hb : j < 1073741824) : Ev X A (.BinOp a .FloorDiv b pos) (.dat (.int (i / j))) := ev_op op_fdivN h1 h2 (bI ⟨Int.ne_of_gt hc, by omega⟩ fun _ => by
  rw [Int.fdiv_eq_ediv_of_nonneg _ (Int.le_of_lt hc)]; exact .int _)
theorem ev_pow {i j : Int} (h1 : Ev X A a (.dat (.int i))) (h2 : Ev X A b (.dat (.int j))) (hc : CPow i j) : Ev X A (.BinOp a .Pow b pos) (.dat (.int (i ^ j.toNat))) := ev_op op_pow h1 h2 (bI hc fun _ => .int _)
theorem ev_neg {i : Int} (h1 : Ev X A a (.dat (.int i))) : Ev X A (.UnaryOp .USub a pos) (.dat (.int (-i))) := ev_un un_neg h1 fun I H v s h Q q => ⟨i, dp_int h, q _ I H (.refl s) (Dp.int _)⟩
theorem ev_lt {i j : Int} (h1 : Ev X A a (.dat (.int i))) (h2 : Ev X A b (.dat (.int j))) : Ev X A (.Compare a [.Lt] [b] pos) (.dat (.bool (decide (i < j)))) := ev_cmp op_lt h1 h2 (bI0 fun _ => .bl _) (nomark _)
theorem ev_le {i j : Int} (h1 : Ev X A a (.dat (.int i))) (h2 : Ev X A b (.dat (.int j))) : Ev X A (.Compare a [.LtE] [b] pos) (.dat (.bool (decide (i ≤ j)))) := ev_cmp op_le h1 h2 (bI0 fun _ => .bl _) (nomark _)
theorem ev_gt {i j : Int} (h1 : Ev X A a (.dat (.int i))) (h2 : Ev X A b (.dat (.int j))) : Ev X A (.Compare a [.Gt] [b] pos) (.dat (.bool (decide (j < i)))) := ev_cmp op_gt h1 h2 (bI0 fun _ => .bl _) (nomark _)
theorem ev_ge {i j : Int} (h1 : Ev X A a (.dat (.int i))) (h2 : Ev X A b (.dat (.int j))) : Ev X A (.Compare a [.GtE] [b] pos) (.dat (.bool (decide (j ≤ i)))) := ev_cmp op_ge h1 h2 (bI0 fun _ => .bl _) (nomark _)
theorem decV {i j : Int} : decide (V.int i = V.int j) = decide (i = j) := decide_eq_decide.mpr ⟨V.int.inj, fun h => h ▸ rfl⟩
theorem decS {i j : Str} : decide (V.str i = V.str j) = decide (i = j) := decide_eq_decide.mpr ⟨V.str.inj, fun h => h ▸ rfl⟩
theorem ev_eqI {i j : Int} (h1 : Ev X A a (.dat (.int i))) (h2 : Ev X A b (.dat (.int j))) : Ev X A (.Compare a [.Eq] [b] pos) (.dat (.bool (decide (i = j)))) := ev_cmp op_eq h1 h2 (bin_val fun I H v w s h1 h2 Q q => by
  rw [dp_int h1, dp_int h2]; exact ⟨rfl, by rw [decV]; exact q _ (.bl _)⟩) (nomark _)
theorem ev_neI {i j : Int} (h1 : Ev X A a (.dat (.int i))) (h2 : Ev X A b (.dat (.int j))) : Ev X A (.Compare a [.NotEq] [b] pos) (.dat (.bool (!decide (i = j)))) := ev_cmp op_ne h1 h2 (bin_val fun I H v w s h1 h2 Q q => by
  rw [dp_int h1, dp_int h2]; exact ⟨rfl, by rw [decV]; exact q _ (.bl _)⟩) (nomark _)
theorem ev_eqS {i j : Str} (h1 : Ev X A a (.dat (.str i))) (h2 : Ev X A b (.dat (.str j))) : Ev X A (.Compare a [.Eq] [b] pos) (.dat (.bool (decide (i = j)))) := ev_cmp op_eq h1 h2 (bin_val fun I H v w s h1 h2 Q q => by
  rw [dp_str h1, dp_str h2]; exact ⟨rfl, by rw [decS]; exact q _ (.bl _)⟩) (nomark _)
theorem ev_neS {i j : Str} (h1 : Ev X A a (.dat (.str i))) (h2 : Ev X A b (.dat (.str j))) : Ev X A (.Compare a [.NotEq] [b] pos) (.dat (.bool (!decide (i = j)))) := ev_cmp op_ne h1 h2 (bin_val fun I H v w s h1 h2 Q q => by
  rw [dp_str h1, dp_str h2]; exact ⟨rfl, by rw [decS]; exact q _ (.bl _)⟩) (nomark _)
theorem ev_eqD {d1 d2 : PyData} {k : Nat} (hr : Room k X.A) (h1 : Ev X A a (.dat d1)) (h2 : Ev X A b (.dat d2)) (s1 : SeqAt.shaped d1 = true) (s2 : SeqAt.shaped d2 = true) : Ev X A (.Compare a [.Eq] [b] pos) (.dat (.bool (PyData.eqv d1 d2))) :=
  ev_cmp (op_eqD hr.units) h1 h2 (bin_val fun I H v w s h1 h2 Q q => ⟨d1, d2, (dp_mono s h1).kit s1, (dp_mono s h2).kit s2, s1, s2, q _ (.bl _)⟩) (nomark _)
theorem ev_neD {d1 d2 : PyData} {k : Nat} (hr : Room k X.A) (h1 : Ev X A a (.dat d1)) (h2 : Ev X A b (.dat d2)) (s1 : SeqAt.shaped d1 = true) (s2 : SeqAt.shaped d2 = true) : Ev X A (.Compare a [.NotEq] [b] pos) (.dat (.bool (!PyData.eqv d1 d2))) :=
  ev_cmp (op_neD hr.units) h1 h2 (bin_val fun I H v w s h1 h2 Q q => ⟨d1, d2, (dp_mono s h1).kit s1, (dp_mono s h2).kit s2, s1, s2, q _ (.bl _)⟩) (nomark _)
theorem ev_isN {d : PyData} (h1 : Ev X A a (.dat d)) : Ev X A (.Compare a [.Is] [.Constant .none j p] pos) (.dat (.bool (match d with | .none => true | _ => false))) :=
  fun I0 H0 σ I H rl Q q => wx_of (pe_cmp (pc_isN wx_pe) rfl) (h1 I0 H0 σ I H rl _ fun v I1 H1 g1 hv => q _ I1 H1 g1 (by
    have hv : Dp X.K I1 v d := hv
    cases hv <;> exact Dp.bl _))
theorem ev_notN {d : PyData} (h1 : Ev X A a (.dat d)) : Ev X A (.Compare a [.IsNot] [.Constant .none j p] pos) (.dat (.bool (match d with | .none => false | _ => true))) :=
  fun I0 H0 σ I H rl Q q => wx_of (pe_cmp (pc_notN wx_pe) rfl) (h1 I0 H0 σ I H rl _ fun v I1 H1 g1 hv => q _ I1 H1 g1 (by
    have hv : Dp X.K I1 v d := hv
    cases hv <;> exact Dp.bl _))
end
end LR

set_option Elab.async false
set_option linter.all false
set_option maxRecDepth 100000
set_option maxHeartbeats 4000000
/-! The layer LR, part b: sequences, calls, tests, comprehensions. -/
namespace LR
open PySem PySem.Spec PyProof.Rows L2

theorem atI_dp {K : PySem.W.Frag} {H : Hp} {vs : List V} {ds : List PyData} (h : DpAll K H vs ds) {i : Int} {d : PyData} (e : atI ds i = some d) : ∃ v, atI vs i = some v ∧ Dp K H v d := by
  unfold atI at e ⊢
  rw [dpAll_len h]
  cases q : ixN ds.length i with
  | none => rw [q] at e; cases e
  | some j => rw [q] at e; exact dpAll_get h (i := j) e
/-- xs[lo:hi] -/
def cut {α : Type} (xs : List α) (lo hi : Option Int) : List α := (xs.drop (HT.sIx xs.length 0 lo)).take (HT.sIx xs.length xs.length hi - HT.sIx xs.length 0 lo)
theorem dpAll_cut {K : PySem.W.Frag} {H : Hp} {vs : List V} {ds : List PyData} (h : DpAll K H vs ds) (lo hi : Option Int) : DpAll K H (cutV vs lo hi) (cut ds lo hi) := by
  unfold cutV cut
  rw [dpAll_len h]
  exact dpAll_take _ (dpAll_drop _ h)
theorem cut_map {α β : Type} (f : α → β) (xs : List α) (lo hi : Option Int) : cut (xs.map f) lo hi = (cut xs lo hi).map f := by
  unfold cut
  rw [List.length_map, List.map_take, List.map_drop]
theorem cut_to {α : Type} (xs : List α) (k : Nat) : cut xs none (some (k : Int)) = xs.take k := by
  unfold cut
  rw [HT.sIx_none, HT.sIx_nat, List.drop_zero, Nat.sub_zero]
  by_cases h : k ≤ xs.length
  · rw [Nat.min_eq_left h]
  · rw [Nat.min_eq_right (by omega), List.take_of_length_le (Nat.le_refl _), List.take_of_length_le (by omega)]
theorem cut_from {α : Type} (xs : List α) (k : Nat) : cut xs (some (k : Int)) none = xs.drop k := by
  unfold cut
  rw [HT.sIx_none, HT.sIx_nat]
  by_cases h : k ≤ xs.length
  · rw [Nat.min_eq_left h, List.take_of_length_le (by rw [List.length_drop]; omega)]
  · rw [Nat.min_eq_right (by omega), List.drop_of_length_le (Nat.le_refl _), List.drop_of_length_le (by omega)]
    simp
theorem cut_mid {α : Type} (xs : List α) (j k : Nat) (hk : k ≤ xs.length) (hj : j ≤ k) : cut xs (some (j : Int)) (some (k : Int)) = (xs.drop j).take (k - j) := by
  unfold cut
  rw [HT.sIx_nat, HT.sIx_nat, Nat.min_eq_left (show j ≤ xs.length by omega), Nat.min_eq_left hk]
theorem cut_len {α : Type} (xs : List α) (lo hi : Option Int) : (cut xs lo hi).length ≤ xs.length := by
  unfold cut
  rw [List.length_take, List.length_drop]
  omega

section
variable {X : Cx} {e a b : Expr} {es : List Expr} {σ : L2.St} {H : Hp} {Q : VK} {A : List C} {pos p p2 : Pos} {x : Str}

theorem sqk {K : PySem.W.Frag} {H : Hp} {p : Addr} {vs : List V} {k : Bool} (h : if k then SqL K H p vs else SqT K H p vs) : SqL K H p vs ∨ SqT K H p vs := by
  cases k with
  | true => exact .inl h
  | false => exact .inr h
/-- an item, i of any sign -/
theorem ev_at {k : Bool} {ds : List PyData} {i : Int} {d : PyData} (h1 : EvS X A a k ds) (h2 : Ev X A b (.dat (.int i))) (hd : atI ds i = some d) (hs : PlainIx b) : Ev X A (.Subscript a b pos) (.dat d) := fun I0 H0 σ I H rl Q q =>
  wx_of (pe_ix (ix_list.or ix_tup) wx_pe wx_pe hs) (h1 I0 H0 σ I H rl _ fun p vs I1 H1 g1 hk ha => h2 I0 H0 σ I1 H1 (rl.grow g1) _ fun w I2 H2 g2 hw => by
    obtain ⟨v, e1, e2⟩ := atI_dp ha hd
    have hw' : Dp X.K I2 w (.int i) := hw
    have fin := q v I2 H2 (g1.trans g2) (dp_mono g2.ii e2)
    cases k with
    | true => exact .inl ⟨p, vs, i, v, rfl, dp_int hw', same_l g2.hh hk, e1, fin⟩
    | false => exact .inr ⟨p, vs, i, v, rfl, dp_int hw', same_t g2.hh hk, e1, fin⟩)
theorem ev_atS {z : Str} {i : Int} {c : Nat} (h1 : Ev X A a (.dat (.str z))) (h2 : Ev X A b (.dat (.int i))) (hz : z.length ≤ sizeLine) (hd : atI z.cps.toList i = some c) (hs : PlainIx b) : Ev X A (.Subscript a b pos) (.dat (.str ⟨#[c]⟩)) :=
  ev_ix ix_str h1 h2 (bin_val fun I H v w s h1 h2 Q q => ⟨z, i, c, dp_str h1, dp_int h2, hz, hd, q _ (.str _)⟩) hs
/-! displays -/
theorem ev_tup {ds : List PyData} {x1} (h : EvA X A es ds) (hz : ds.length ≤ sizeLine := by decide) : Ev X A (.Tuple es x1 pos) (.dat (.tuple ds)) := fun I0 H0 σ I H rl Q q =>
  wx_of (pe_tup wa_pa) (h I0 H0 σ I H rl _ fun vs I1 H1 g ha => ⟨by rw [dpAll_len ha]; exact hz, fun p hp => by
    have g2 := Grow.new (o := .tup vs) g.ih hp
    exact q _ _ _ (g.trans g2) (.tup upd_same (dpAll_mono g2.ii ha))⟩)
theorem ev_lst {ds : List PyData} (h : EvA X A es ds) (hz : ds.length ≤ sizeLine := by decide) : Ev X A (.List es pos) (.own (.lst ds)) := fun I0 H0 σ I H rl Q q =>
  wx_of (pe_lst wa_pa) (h I0 H0 σ I H rl _ fun vs I1 H1 g ha => ⟨by rw [dpAll_len ha]; exact hz, fun p hp => by
    have g2 := Grow.newH (o := .lst vs) g.ih hp
    exact q _ _ _ (g.trans g2) ⟨p, .lst vs, rfl, g.hh.free hp, g.ih.free hp, upd_same, ha⟩⟩)
/-! t + u, xs + ys -/
theorem ev_catT {ds es : List PyData} (h1 : Ev X A a (.dat (.tuple ds))) (h2 : Ev X A b (.dat (.tuple es))) (hz : ds.length + es.length ≤ sizeLine) : Ev X A (.BinOp a .Add b pos) (.dat (.tuple (ds ++ es))) :=
  ev_op op_catA h1 h2 fun I H v w s h1 h2 Q q => by
    obtain ⟨p, xs, rfl, hx, ha⟩ := dp_tup h1
    obtain ⟨p2, ys, rfl, hy, hb⟩ := dp_tup h2
    have l1 := dpAll_len ha
    have l2 := dpAll_len hb
    refine ⟨p, p2, xs, ys, rfl, rfl, same_t s hx, same_t s hy, by rw [l1, l2]; exact hz, fun e0 => ?_, fun e0 e1 => ?_, fun e0 e1 l hl => ?_⟩
    · subst e0
      cases ha
      exact q _ I H (.refl s) h2
    · subst e1
      cases hb
      exact q _ I H (.refl s) (by rw [List.append_nil]; exact h1)
    · have g2 := Grow.new (o := .tup (xs ++ ys)) s hl
      exact q _ _ _ g2 (.tup upd_same (dpAll_mono g2.ii (dpAll_append ha hb)))
/-- what may be tracked of a list that is read -/
def EvL (X : Cx) (A : List C) (e : Expr) (ds : List PyData) : Prop := ∀ I0 H0 σ I H, Rel X.K I0 H0 A σ I H → ∀ Q : VK,
  (∀ p vs I' H', Grow I H I' H' → H' p = some (.lst vs) → DpAll X.K I' vs ds → Q (.ref p) H') → Wx X e σ H Q
theorem evl_own (i : Nat) {x : Str} {ds : List PyData} (hN : X.N[i]? = some x) (hA : A[i]? = some (.own (.lst ds))) (hv : Vis X.env.scope x) (hd : (x == ("__debug__" : Str)) = false := by decide)
    (hcd : (x == ("__classdict__" : Str)) = false := by decide) : EvL X A (.Name x pos) ds := fun _ _ σ I H r Q q => by
  obtain ⟨p, o, e, _, _, ho, hb⟩ := r.cell i _ hA
  obtain ⟨vs, rfl, ha⟩ := obAt_lst hb
  exact wx_of (pe_var hN hv hd hcd) ⟨.ref p, e, q p vs I H (.refl r.ih) ho ha⟩
theorem evl_new {ds : List PyData} (h : Ev X A e (.own (.lst ds))) : EvL X A e ds := fun I0 H0 σ I H r Q q =>
  h I0 H0 σ I H r Q fun v I' H' g hv => by
    obtain ⟨p, o, rfl, _, _, h', hb⟩ := hv
    obtain ⟨vs, rfl, ha⟩ := obAt_lst hb
    exact q p vs I' H' g h' ha
theorem ev_catL {ds es : List PyData} (h1 : EvL X A a ds) (h2 : EvL X A b es) (hz : ds.length + es.length ≤ sizeLine) : Ev X A (.BinOp a .Add b pos) (.own (.lst (ds ++ es))) := fun I0 H0 σ I H rl Q q =>
  wx_of (pe_op op_cat wx_pe wx_pe) (h1 I0 H0 σ I H rl _ fun p xs I1 H1 g1 hp ha => h2 I0 H0 σ I1 H1 (rl.grow g1) _ fun p2 ys I2 H2 g2 hp2 hb =>
    ⟨p, p2, xs, ys, rfl, rfl, g2.hh _ _ hp, hp2, by rw [dpAll_len ha, dpAll_len hb]; exact hz, fun l hl => by
      have g3 := Grow.newH (o := .lst (xs ++ ys)) g2.ih hl
      exact q _ _ _ ((g1.trans g2).trans g3) ⟨l, _, rfl, (g1.trans g2).hh.free hl, g2.ih.free hl, upd_same, dpAll_append (dpAll_mono g2.ii ha) hb⟩⟩)
theorem dpAll_rep {K : PySem.W.Frag} {H : Hp} {vs : List V} {ds : List PyData} (h : DpAll K H vs ds) : ∀ n : Nat, DpAll K H (List.replicate n vs).flatten (List.replicate n ds).flatten
  | 0 => .nil
  | n + 1 => by
    rw [List.replicate_succ, List.replicate_succ, List.flatten_cons, List.flatten_cons]
    exact dpAll_append h (dpAll_rep h n)
/-! slices -/
def EvO (X : Cx) (A : List C) (e : Option Expr) (o : Option Int) : Prop := match e, o with
  | none, none => True
  | some e, some i => Ev X A e (.dat (.int i))
  | _, _ => False
theorem evo_none : EvO X A none none := True.intro
theorem evo_some {i : Int} (h : Ev X A e (.dat (.int i))) : EvO X A (some e) (some i) := h
def Wo (X : Cx) (e : Option Expr) (σ : L2.St) (H : Hp) (Q : Option Int → Hp → Prop) : Prop := match e with
  | none => Q none H
  | some e => Wx X e σ H fun x H1 => ∃ i, x = .int i ∧ Q (some i) H1
theorem wo_po {e : Option Expr} : PO X e (Wo X e) := by
  cases e with
  | none => exact po_none
  | some e => exact po_some wx_pe
theorem evo_run {e : Option Expr} {o : Option Int} (h : EvO X A e o) {I0 H0 I : Hp} (rl : Rel X.K I0 H0 A σ I H) {Q : Option Int → Hp → Prop} (q : ∀ I' H', Grow I H I' H' → Q o H') : Wo X e σ H Q := by
  cases e with
  | none => cases o with
    | none => exact q I H (.refl rl.ih)
    | some i => exact h.elim
  | some e => cases o with
    | none => exact h.elim
    | some i => exact h I0 H0 σ I H rl _ fun v I1 H1 g hv => ⟨i, dp_int hv, q I1 H1 g⟩
theorem ev_slL {lo hi : Option Expr} {l u : Option Int} {ds : List PyData} (h : EvS X A e true ds) (hl : EvO X A lo l) (hu : EvO X A hi u) : Ev X A (.Subscript e (.Slice lo hi none p2) pos) (.own (.lst (cut ds l u))) := fun I0 H0 σ I H rl Q q =>
  wx_of (pe_slice sl_list wx_pe wo_po wo_po) (h I0 H0 σ I H rl _ fun p vs I1 H1 g1 hk ha => evo_run hl (rl.grow g1) fun I2 H2 g2 => evo_run hu ((rl.grow g1).grow g2) fun I3 H3 g3 =>
    ⟨p, vs, rfl, same_l (g2.trans g3).hh hk, fun r hr => by
      have g := (g1.trans g2).trans g3
      have g4 := Grow.newH (o := .lst (cutV vs l u)) g3.ih hr
      exact q _ _ _ (g.trans g4) ⟨r, _, rfl, g.hh.free hr, g3.ih.free hr, upd_same, dpAll_mono (g2.trans g3).ii (dpAll_cut ha l u)⟩⟩)
theorem ev_slT {lo hi : Option Expr} {l u : Option Int} {ds : List PyData} (h : Ev X A e (.dat (.tuple ds))) (hl : EvO X A lo l) (hu : EvO X A hi u) : Ev X A (.Subscript e (.Slice lo hi none p2) pos) (.dat (.tuple (cut ds l u))) := fun I0 H0 σ I H rl Q q =>
  wx_of (pe_slice sl_tupA wx_pe wo_po wo_po) (h I0 H0 σ I H rl _ fun v I1 H1 g1 hv => evo_run hl (rl.grow g1) fun I2 H2 g2 => evo_run hu ((rl.grow g1).grow g2) fun I3 H3 g3 => by
    have hv := dp_mono (g2.trans g3).ii (show Dp X.K I1 v (.tuple ds) from hv)
    obtain ⟨p, vs, rfl, hk, ha⟩ := dp_tup hv
    have g := (g1.trans g2).trans g3
    refine ⟨p, vs, rfl, same_t g3.ih hk, fun ⟨e1, e2⟩ => ?_, fun _ r hr => ?_⟩
    · refine q _ _ _ g ?_
      have e3 : cut ds l u = ds := by
        unfold cut
        rw [← dpAll_len ha, e1, e2, List.drop_zero, Nat.sub_zero, dpAll_len ha, List.take_length]
      rw [e3]
      exact hv
    · have g4 := Grow.new (o := .tup (cutV vs l u)) g3.ih hr
      exact q _ _ _ (g.trans g4) (.tup upd_same (dpAll_mono g4.ii (dpAll_cut ha l u))))
/-! built-ins -/
theorem ev_len {k : Bool} {ds : List PyData} (hg : Gl X "len") (hm : X.mg "len" = none) (h : EvS X A e k ds) (hs : starEach (e :: []) X.env = (false, eval e X.env) :: starEach [] X.env := by rfl) : Ev X A (.Call (.Name "len" p) [e] [] pos) (.dat (.int ds.length)) := fun I0 H0 σ I H rl Q q =>
  wx_of (pe_callB call_len_seq hg hm PySem.boot_len (pa_cons wx_pe pa_nil hs) (by decide) (by decide) hs rfl) (h I0 H0 σ I H rl _ fun p vs I1 H1 g hk ha => ⟨p, vs, rfl, sqk hk, q _ I1 H1 g (by rw [← dpAll_len ha]; exact Dp.int _)⟩)
theorem ev_lenS {z : Str} (hg : Gl X "len") (hm : X.mg "len" = none) (h : Ev X A e (.dat (.str z))) (hz : z.length ≤ sizeLine) (hs : starEach (e :: []) X.env = (false, eval e X.env) :: starEach [] X.env := by rfl) : Ev X A (.Call (.Name "len" p) [e] [] pos) (.dat (.int z.length)) := fun I0 H0 σ I H rl Q q =>
  wx_of (pe_callB call_len_str hg hm PySem.boot_len (pa_cons wx_pe pa_nil hs) (by decide) (by decide) hs rfl) (h I0 H0 σ I H rl _ fun v I1 H1 g hv => ⟨z, by rw [dp_str hv], hz, q _ I1 H1 g (Dp.int _)⟩)
theorem ev_tuple {ds : List PyData} (hg : Gl X "tuple") (hm : X.mg "tuple" = none) (h : EvS X A e true ds) (hb : bootBuiltins "tuple" = some (.type "tuple") := by decide +kernel) (hs : starEach (e :: []) X.env = (false, eval e X.env) :: starEach [] X.env := by rfl) : Ev X A (.Call (.Name "tuple" p) [e] [] pos) (.dat (.tuple ds)) := fun I0 H0 σ I H rl Q q =>
  wx_of (pe_callTy call_tuple_of hg hm hb (pa_cons wx_pe pa_nil hs) (by decide) (by decide) hs rfl) (h I0 H0 σ I H rl _ fun p vs I1 H1 g hk ha => ⟨p, vs, rfl, .inl ⟨hk, fun l hl => by
    have g2 := Grow.new (o := .tup vs) g.ih hl
    exact q _ _ _ (g.trans g2) (.tup upd_same (dpAll_mono g2.ii ha))⟩⟩)
theorem ev_tupleT {ds : List PyData} (hg : Gl X "tuple") (hm : X.mg "tuple" = none) (h : Ev X A e (.dat (.tuple ds))) (hb : bootBuiltins "tuple" = some (.type "tuple") := by decide +kernel) (hs : starEach (e :: []) X.env = (false, eval e X.env) :: starEach [] X.env := by rfl) : Ev X A (.Call (.Name "tuple" p) [e] [] pos) (.dat (.tuple ds)) := fun I0 H0 σ I H rl Q q =>
  wx_of (pe_callTy call_tuple_of hg hm hb (pa_cons wx_pe pa_nil hs) (by decide) (by decide) hs rfl) (h I0 H0 σ I H rl _ fun v I1 H1 g hv => by
    have hv : Dp X.K I1 v (.tuple ds) := hv
    obtain ⟨p, vs, rfl, hk, ha⟩ := dp_tup hv
    exact ⟨p, vs, rfl, .inr ⟨same_t g.ih hk, q _ I1 H1 g hv⟩⟩)
theorem ev_list {k : Bool} {ds : List PyData} (hg : Gl X "list") (hm : X.mg "list" = none) (h : EvS X A e k ds) (hb : bootBuiltins "list" = some (.type "list") := by decide +kernel) (hs : starEach (e :: []) X.env = (false, eval e X.env) :: starEach [] X.env := by rfl) : Ev X A (.Call (.Name "list" p) [e] [] pos) (.own (.lst ds)) := fun I0 H0 σ I H rl Q q =>
  wx_of (pe_callTy call_list_of hg hm hb (pa_cons wx_pe pa_nil hs) (by decide) (by decide) hs rfl) (h I0 H0 σ I H rl _ fun p vs I1 H1 g hk ha => ⟨p, vs, rfl, sqk hk, fun l hl => by
    have g2 := Grow.newH (o := .lst vs) g.ih hl
    exact q _ _ _ (g.trans g2) ⟨l, _, rfl, g.hh.free hl, g.ih.free hl, upd_same, ha⟩⟩)
theorem ev_intB {k : Bool} (hg : Gl X "int") (hm : X.mg "int" = none) (h : Ev X A e (.dat (.bool k))) (hb : bootBuiltins "int" = some (.type "int") := by decide +kernel) (hs : starEach (e :: []) X.env = (false, eval e X.env) :: starEach [] X.env := by rfl) : Ev X A (.Call (.Name "int" p) [e] [] pos) (.dat (.int (if k then 1 else 0))) := fun I0 H0 σ I H rl Q q =>
  wx_of (pe_callTy call_int1 hg hm hb (pa_cons wx_pe pa_nil hs) (by decide) (by decide) hs rfl) (h I0 H0 σ I H rl _ fun v I1 H1 g hv => .inr ⟨k, by rw [dp_bool hv], q _ I1 H1 g (Dp.int _)⟩)
theorem ev_strI {i : Int} (hg : Gl X "str") (hm : X.mg "str" = none) (h : Ev X A e (.dat (.int i))) (hz : i.natAbs.log2 < 1920) (hb : bootBuiltins "str" = some (.type "str") := by decide +kernel) (hs : starEach (e :: []) X.env = (false, eval e X.env) :: starEach [] X.env := by rfl) : Ev X A (.Call (.Name "str" p) [e] [] pos) (.dat (.str (toString i))) := fun I0 H0 σ I H rl Q q =>
  wx_of (pe_callTy call_str_int hg hm hb (pa_cons wx_pe pa_nil hs) (by decide) (by decide) hs rfl) (h I0 H0 σ I H rl _ fun v I1 H1 g hv => ⟨i, by rw [dp_int hv], hz, q _ I1 H1 g (Dp.str _)⟩)
theorem ev_max2 {i j : Int} {e2 : Expr} (hc : X.calm = true) (hg : Gl X "max") (hm : X.mg "max" = none) (h : EvA X A [e, e2] [.int i, .int j]) (hb : bootBuiltins "max" = some (.builtin "max") := by decide +kernel)
    (hs : starEach (e :: [e2]) X.env = (false, eval e X.env) :: starEach [e2] X.env := by rfl) (hpl : (backTo pos (starEach [e2] X.env)).any (·.1) = false := by rfl) : Ev X A (.Call (.Name "max" p) [e, e2] [] pos) (.dat (.int (max i j))) := fun I0 H0 σ I H rl Q q =>
  wx_of (pe_callB (call_max2 hc) hg hm hb wa_pa (by decide) (by decide) hs hpl) (h I0 H0 σ I H rl _ fun vs I1 H1 g hv => by
    cases hv with
    | cons h1 h2 => cases h2 with
      | cons h2 h3 =>
        cases h3
        exact ⟨i, j, by rw [dp_int h1, dp_int h2], q _ I1 H1 g (by
          have e1 : (if j > i then j else i) = max i j := by omega
          rw [e1]; exact Dp.int _)⟩)
theorem ev_min2 {i j : Int} {e2 : Expr} (hc : X.calm = true) (hg : Gl X "min") (hm : X.mg "min" = none) (h : EvA X A [e, e2] [.int i, .int j]) (hb : bootBuiltins "min" = some (.builtin "min") := by decide +kernel)
    (hs : starEach (e :: [e2]) X.env = (false, eval e X.env) :: starEach [e2] X.env := by rfl) (hpl : (backTo pos (starEach [e2] X.env)).any (·.1) = false := by rfl) : Ev X A (.Call (.Name "min" p) [e, e2] [] pos) (.dat (.int (min i j))) := fun I0 H0 σ I H rl Q q =>
  wx_of (pe_callB (call_min2 hc) hg hm hb wa_pa (by decide) (by decide) hs hpl) (h I0 H0 σ I H rl _ fun vs I1 H1 g hv => by
    cases hv with
    | cons h1 h2 => cases h2 with
      | cons h2 h3 =>
        cases h3
        exact ⟨i, j, by rw [dp_int h1, dp_int h2], q _ I1 H1 g (by
          have e1 : (if j < i then j else i) = min i j := by omega
          rw [e1]; exact Dp.int _)⟩)
theorem ev_sum {ns : List Int} (hc : X.calm = true) (hg : Gl X "sum") (hm : X.mg "sum" = none) (h : EvS X A e true (ns.map PyData.int)) (hb : bootBuiltins "sum" = some (.builtin "sum") := by decide +kernel) (hs : starEach (e :: []) X.env = (false, eval e X.env) :: starEach [] X.env := by rfl) : Ev X A (.Call (.Name "sum" p) [e] [] pos) (.dat (.int ns.sum)) := fun I0 H0 σ I H rl Q q =>
  wx_of (pe_callB (cr_sum hc) hg hm hb (pa_cons wx_pe pa_nil hs) (by decide) (by decide) hs rfl) (h I0 H0 σ I H rl _ fun p vs I1 H1 g hk ha => ⟨p, ns, rfl, by rw [← ints_of ha]; exact hk, q _ I1 H1 g (Dp.int _)⟩)
theorem ev_any {bs : List Bool} (hc : X.calm = true) (hg : Gl X "any") (hm : X.mg "any" = none) (h : EvS X A e true (bs.map PyData.bool)) (hb : bootBuiltins "any" = some (.builtin "any") := by decide +kernel) (hs : starEach (e :: []) X.env = (false, eval e X.env) :: starEach [] X.env := by rfl) : Ev X A (.Call (.Name "any" p) [e] [] pos) (.dat (.bool (bs.any id))) := fun I0 H0 σ I H rl Q q =>
  wx_of (pe_callB (cr_any hc) hg hm hb (pa_cons wx_pe pa_nil hs) (by decide) (by decide) hs rfl) (h I0 H0 σ I H rl _ fun p vs I1 H1 g hk ha => ⟨p, bs, rfl, by rw [← bls_of ha]; exact hk, q _ I1 H1 g (Dp.bl _)⟩)
theorem ev_all {bs : List Bool} (hc : X.calm = true) (hg : Gl X "all") (hm : X.mg "all" = none) (h : EvS X A e true (bs.map PyData.bool)) (hb : bootBuiltins "all" = some (.builtin "all") := by decide +kernel) (hs : starEach (e :: []) X.env = (false, eval e X.env) :: starEach [] X.env := by rfl) : Ev X A (.Call (.Name "all" p) [e] [] pos) (.dat (.bool (bs.all id))) := fun I0 H0 σ I H rl Q q =>
  wx_of (pe_callB (cr_all hc) hg hm hb (pa_cons wx_pe pa_nil hs) (by decide) (by decide) hs rfl) (h I0 H0 σ I H rl _ fun p vs I1 H1 g hk ha => ⟨p, bs, rfl, by rw [← bls_of ha]; exact hk, q _ I1 H1 g (Dp.bl _)⟩)
theorem ev_maxL {ns : List Int} {m : Int} (hc : X.calm = true) (hg : Gl X "max") (hm : X.mg "max" = none) (h : EvS X A e true (ns.map PyData.int)) (h1 : m ∈ ns) (h2 : ∀ y ∈ ns, y ≤ m) (hb : bootBuiltins "max" = some (.builtin "max") := by decide +kernel) (hs : starEach (e :: []) X.env = (false, eval e X.env) :: starEach [] X.env := by rfl) : Ev X A (.Call (.Name "max" p) [e] [] pos) (.dat (.int m)) := fun I0 H0 σ I H rl Q q =>
  wx_of (pe_callB (cr_max hc) hg hm hb (pa_cons wx_pe pa_nil hs) (by decide) (by decide) hs rfl) (h I0 H0 σ I H rl _ fun p vs I1 H1 g hk ha => ⟨p, ns, rfl, by rw [← ints_of ha]; exact hk, List.length_pos_of_mem h1, fun m' h3 h4 => by
    have e1 := h4 m h1
    have e2 := h2 m' h3
    have e3 : m' = m := by omega
    rw [e3]
    exact q _ I1 H1 g (Dp.int _)⟩)
theorem ev_minL {ns : List Int} {m : Int} (hc : X.calm = true) (hg : Gl X "min") (hm : X.mg "min" = none) (h : EvS X A e true (ns.map PyData.int)) (h1 : m ∈ ns) (h2 : ∀ y ∈ ns, m ≤ y) (hb : bootBuiltins "min" = some (.builtin "min") := by decide +kernel) (hs : starEach (e :: []) X.env = (false, eval e X.env) :: starEach [] X.env := by rfl) : Ev X A (.Call (.Name "min" p) [e] [] pos) (.dat (.int m)) := fun I0 H0 σ I H rl Q q =>
  wx_of (pe_callB (cr_min hc) hg hm hb (pa_cons wx_pe pa_nil hs) (by decide) (by decide) hs rfl) (h I0 H0 σ I H rl _ fun p vs I1 H1 g hk ha => ⟨p, ns, rfl, by rw [← ints_of ha]; exact hk, List.length_pos_of_mem h1, fun m' h3 h4 => by
    have e1 := h4 m h1
    have e2 := h2 m' h3
    have e3 : m' = m := by omega
    rw [e3]
    exact q _ I1 H1 g (Dp.int _)⟩)
/-! isinstance of data -/
def tyD : PyData → String
  | .none => "NoneType" | .bool _ => "bool" | .int _ => "int" | .str _ => "str" | .list _ => "list" | .tuple _ => "tuple" | .dict _ => "dict"
theorem tyX_of {K : PySem.W.Frag} {H : Hp} {v : V} {d : PyData} (h : Dp K H v d) : TyX K H v (.type (tyD d)) := by
  cases h with
  | non => exact .base .non
  | bl b => exact .base (.bl b)
  | int i => exact .base (.int i)
  | str x => exact .base (.str x)
  | lst hs ha =>
    rcases hs with (h | ⟨o, h⟩) | ⟨o, its, n, h, c, _⟩
    · exact .base (.lst h)
    · exact .base (.frz h)
    · exact .kList h c
  | tup h ha => exact .base (.tup h)
  | dic h => exact .base (.dK h)
/-- isinstance(x, T), T a built-in class -/
theorem ev_isi {T : String} {d : PyData} {r : Bool} {t : Expr} (hg : Gl X "isinstance") (hm : X.mg "isinstance" = none) (h1 : Ev X A e (.dat d)) (hT : t = .Name (Str.ofString T) p2) (hgT : Gl X (Str.ofString T)) (hmT : X.mg (Str.ofString T) = none)
    (hbT : bootBuiltins (Str.ofString T) = some (.type T)) (hk : kitB (tyD d) T = some r) (hn : Str.ofString T ≠ "__name__" := by decide) (hb : bootBuiltins "isinstance" = some (.builtin "isinstance") := by decide +kernel)
    (hs : starEach (e :: [t]) X.env = (false, eval e X.env) :: starEach [t] X.env := by rfl) (hs2 : starEach [t] X.env = (false, eval t X.env) :: starEach [] X.env := by rfl) (hpl : (backTo pos (starEach [t] X.env)).any (·.1) = false := by rfl) (hdb : (Str.ofString T == ("__debug__" : Str)) = false := by decide) :
    Ev X A (.Call (.Name "isinstance" p) [e, t] [] pos) (.dat (.bool r)) := fun I0 H0 σ I H rl Q q => by
  subst hT
  exact wx_of (pe_callB call_isi hg hm hb (pa_cons wx_pe (pa_cons (pe_bltn (v := .ty T) hgT hmT hbT rfl hn hdb) pa_nil hs2) hs) (by decide) (by decide) hs hpl) (h1 I0 H0 σ I H rl _ fun v I1 H1 g hv => ⟨v, .ty T, .type (tyD d), .type T, r, rfl, .ty T, tyX_of (dp_mono g.ih hv), kit_ty hk, q _ I1 H1 g (Dp.bl _)⟩)
end
end LR

set_option Elab.async false
set_option linter.all false
set_option maxRecDepth 100000
set_option maxHeartbeats 4000000
/-! The layer LR, part c: calls of defs, tests, statements, loops, the rule of a def. -/
namespace LR
open PySem PySem.Spec PyProof.Rows L2

inductive Res where
  | ok (c : C)
  | ex (x : Str)
/-- a promise by data: R of the arguments and the result -/
def Spec (K : PySem.W.Frag) (mg : Str → Option Value) (R : List PyData → Res → Prop) : Sp := fun vs H Q E => ∃ I ds r, Same I H ∧ DpAll K I vs ds ∧ R ds r ∧ match r with
  | .ok c => ∀ v I' H', Grow I H I' H' → VR K H I' H' v c → Q v H'
  | .ex x => ∀ I' H', Grow I H I' H' → ∀ c, mg x = some (.ref c) → E (.ref c) none H'
/-- a def of the text, as callers need it -/
structure Fn (P : Program) (w : World) (K : PySem.W.Frag) (mg : Str → Option Value) (base : Heap) (k : Nat) (x : Str) (ps : List Str) (R : List PyData → Res → Prop) : Prop where
  ex : ∃ f fd, FnOk P w K mg base (L2.CX P w) k f fd ps (Spec K mg R) ∧ mg x = some (.ref f) ∧ PySem.W.keepIn K (.ref f) = true ∧ Binds K fd ps [] ∧ ∃ (oc : Value) (od : Option Addr) (osl : Array (Option Value)), K.lookup f = some ⟨oc, od, .func fd, osl⟩
/-- the def behind it, told by its object -/
theorem Fn.withFd {P : Program} {w : World} {K : PySem.W.Frag} {mg : Str → Option Value} {base : Heap} {k : Nat} {x : Str} {ps : List Str} {R : List PyData → Res → Prop} (F : Fn P w K mg base k x ps R) {f : Addr} {fd : FuncData} {oc : Value} {od : Option Addr} {osl : Array (Option Value)}
    (hm : mg x = some (.ref f)) (hl : K.lookup f = some ⟨oc, od, .func fd, osl⟩) : ∃ f fd', FnOk P w K mg base (L2.CX P w) k f fd' ps (Spec K mg R) ∧ mg x = some (.ref f) ∧ fd' = fd := by
  obtain ⟨f', fd', F', hm', _, _, oc', od', osl', hl'⟩ := F.ex
  have e := hm.symm.trans hm'
  cases e
  have e2 := hl.symm.trans hl'
  cases e2
  exact ⟨f, fd, F', hm, rfl⟩
theorem Fn.imp {P : Program} {w : World} {K : PySem.W.Frag} {mg : Str → Option Value} {base : Heap} {k : Nat} {x : Str} {ps : List Str} {R R' : List PyData → Res → Prop} (F : Fn P w K mg base k x ps R) (h : ∀ ds r, R' ds r → R ds r) : Fn P w K mg base k x ps R' := by
  obtain ⟨f, fd, F, a, b, c⟩ := F.ex
  exact ⟨f, fd, F.imp fun vs H Q E ⟨I, ds, r, s, hd, hr, q⟩ => ⟨I, ds, r, s, hd, h ds r hr, q⟩, a, b, c⟩
theorem Fn.mono {P : Program} {w : World} {K : PySem.W.Frag} {mg : Str → Option Value} {base : Heap} {j k : Nat} {x : Str} {ps : List Str} {R : List PyData → Res → Prop} (F : Fn P w K mg base j x ps R) (h : j ≤ k) : Fn P w K mg base k x ps R := by
  obtain ⟨f, fd, F, a, b, c⟩ := F.ex
  exact ⟨f, fd, F.mono h, a, b, c⟩

section
variable {X : Cx} {e a b : Expr} {es : List Expr} {σ : L2.St} {H : Hp} {Q : VK} {A : List C} {pos p p2 : Pos} {x : Str}

theorem ev_call {k : Nat} {ps : List Str} {R : List PyData → Res → Prop} {ds : List PyData} {c : C} (G : Fn X.prog X.w X.K X.mg X.base k x ps R) (hr : Room k X.A) (hg : Gl X x) (ha : EvA X A (e :: es) ds) (h : R ds (.ok c)) (hdb : (x == ("__debug__" : Str)) = false := by decide)
    (he : starEach (e :: es) X.env = (false, eval e X.env) :: starEach es X.env := by rfl) (hpl : (backTo pos (starEach es X.env)).any (·.1) = false := by rfl) : Ev X A (.Call (.Name x p) (e :: es) [] pos) c := fun I0 H0 σ I H rl Q q => by
  obtain ⟨f, fd, F, hm, hk, hb, _⟩ := G.ex
  exact wx_of (pe_call F hr hg hm hk hb .nil passL wa_pa hdb he hpl) (ha I0 H0 σ I H rl _ fun vs I1 H1 g hv => ⟨I1, ds, .ok c, g.ih, by rw [List.append_nil]; exact hv, h, fun v I2 H2 g2 hv2 => q v I2 H2 (g.trans g2) (hv2.back g.hh)⟩)
/-- the expression raises x -/
def EvX (X : Cx) (A : List C) (e : Expr) (x : Str) : Prop := ∀ I0 H0 σ I H, Rel X.K I0 H0 A σ I H → ∀ W : WX, Takes X W → (∀ I' H', Grow I H I' H' → ∀ c, X.mg x = some (.ref c) → W (.ref c) none σ H') → ∀ Q : VK, Wx X e σ H Q
theorem evx_call {k : Nat} {ps : List Str} {R : List PyData → Res → Prop} {ds : List PyData} {y : Str} (G : Fn X.prog X.w X.K X.mg X.base k x ps R) (hr : Room k X.A) (hg : Gl X x) (ha : EvA X A (e :: es) ds) (h : R ds (.ex y)) (hdb : (x == ("__debug__" : Str)) = false := by decide)
    (he : starEach (e :: es) X.env = (false, eval e X.env) :: starEach es X.env := by rfl) (hpl : (backTo pos (starEach es X.env)).any (·.1) = false := by rfl) : EvX X A (.Call (.Name x p) (e :: es) [] pos) y := fun I0 H0 σ I H rl W tk q Q => by
  obtain ⟨f, fd, F, hm, hk, hb, _⟩ := G.ex
  exact wx_of (pe_callS F hr hg hm hk hb (fun σ => passAt tk σ) wa_pa hdb he hpl) (ha I0 H0 σ I H rl _ fun vs I1 H1 g hv => ⟨I1, ds, .ex y, g.ih, hv, h, fun I2 H2 g2 c hc => q I2 H2 (g.trans g2) c hc⟩)
/-! tests -/
theorem et_ev {v : Bool} (h : Ev X A e (.dat (.bool v))) (he : ∀ whole, isTrue e X.env whole = (do let v ← whole; standAt e.pos; holding [v] (truthy v)) := by intro _; rfl) : Et X A e v := fun I0 H0 σ I H rl Q q =>
  wt_of (pt_val wx_pe he) (h I0 H0 σ I H rl _ fun u I1 H1 g hv => ⟨v, dp_bool hv, q I1 H1 g⟩)
/-- a list, a tuple by its truth -/
theorem et_seq {k : Bool} {ds : List PyData} (h : EvS X A e k ds) (he : ∀ whole, isTrue e X.env whole = (do let v ← whole; standAt e.pos; holding [v] (truthy v)) := by intro _; rfl) : Et X A e (!ds.isEmpty) := fun I0 H0 σ I H rl Q q =>
  wt_of (pt_truth wx_pe he) (h I0 H0 σ I H rl _ fun p vs I1 H1 g hk ha => ⟨!ds.isEmpty, by
    have e1 : vs.isEmpty = ds.isEmpty := by cases ha <;> rfl
    rw [← e1]
    cases k with
    | true => exact .inl ⟨vs, hk, rfl⟩
    | false => exact .inr (.inl ⟨vs, hk, rfl⟩), q I1 H1 g⟩)
theorem et_not {v : Bool} (h : Et X A a v) : Et X A (.UnaryOp .Not a pos) (!v) := fun I0 H0 σ I H rl Q q => wt_of (pt_not wt_pe) (h I0 H0 σ I H rl _ q)
theorem ew_et {v : Bool} (h : Ew X A e v) : Et X A e v := fun I0 H0 σ I H rl Q q pins s I => (h I0 H0 σ _ H rl Q q) _ pins s I
theorem ew_and1 {v : Bool} (h : Et X A a v) : Ew X A (.BoolOp .And [a] pos) v := fun I0 H0 σ I H rl Q q => ww_of (pw_and1 wt_pe) (h I0 H0 σ I H rl _ q)
theorem ew_or1 {v : Bool} (h : Et X A a v) : Ew X A (.BoolOp .Or [a] pos) v := fun I0 H0 σ I H rl Q q => ww_of (pw_or1 wt_pe) (h I0 H0 σ I H rl _ q)
theorem ew_and {v u : Bool} (h : Et X A a v) (h2 : v = true → Ew X A (.BoolOp .And (b :: es) pos) u) : Ew X A (.BoolOp .And (a :: b :: es) pos) (v && u) := fun I0 H0 σ I H rl Q q =>
  ww_of (pw_and wt_pe ww_pw) (h I0 H0 σ I H rl _ fun I1 H1 g => by
    cases v with
    | true => exact iteT (h2 rfl I0 H0 σ I1 H1 (rl.grow g) Q fun I2 H2 g2 => q I2 H2 (g.trans g2))
    | false => exact iteF (q I1 H1 g))
theorem ew_or {v u : Bool} (h : Et X A a v) (h2 : v = false → Ew X A (.BoolOp .Or (b :: es) pos) u) : Ew X A (.BoolOp .Or (a :: b :: es) pos) (v || u) := fun I0 H0 σ I H rl Q q =>
  ww_of (pw_or wt_pe ww_pw) (h I0 H0 σ I H rl _ fun I1 H1 g => by
    cases v with
    | true => exact iteT (q I1 H1 g)
    | false => exact iteF (h2 rfl I0 H0 σ I1 H1 (rl.grow g) Q fun I2 H2 g2 => q I2 H2 (g.trans g2)))
/-! and, or, not as values -/
theorem ev_not {v : Bool} (h : Ev X A a (.dat (.bool v))) : Ev X A (.UnaryOp .Not a pos) (.dat (.bool (!v))) := fun I0 H0 σ I H rl Q q =>
  wx_of (pe_not wx_pe) (h I0 H0 σ I H rl _ fun u I1 H1 g hv => ⟨v, dp_bool hv, q _ I1 H1 g (Dp.bl _)⟩)
theorem ev_one {op : BoolOp} {c : C} (h : Ev X A a c) : Ev X A (.BoolOp op [a] pos) c := by
  cases op with
  | And => exact fun I0 H0 σ I H rl Q q => wx_of (pe_one wx_pe) (h I0 H0 σ I H rl Q q)
  | Or => exact fun I0 H0 σ I H rl Q q => wx_of (pe_one wx_pe) (h I0 H0 σ I H rl Q q)
theorem ev_and {v u : Bool} (h : Ev X A a (.dat (.bool v))) (h2 : v = true → Ev X A (.BoolOp .And (b :: es) pos) (.dat (.bool u))) : Ev X A (.BoolOp .And (a :: b :: es) pos) (.dat (.bool (v && u))) := fun I0 H0 σ I H rl Q q =>
  wx_of (pe_and wx_pe wx_pe) (h I0 H0 σ I H rl _ fun w I1 H1 g hv => ⟨v, dp_bool hv, by
    cases v with
    | true => exact iteT (h2 rfl I0 H0 σ I1 H1 (rl.grow g) Q fun y I2 H2 g2 hy => q y I2 H2 (g.trans g2) hy)
    | false => exact iteF (q _ I1 H1 g (Dp.bl false))⟩)
theorem ev_or {v u : Bool} (h : Ev X A a (.dat (.bool v))) (h2 : v = false → Ev X A (.BoolOp .Or (b :: es) pos) (.dat (.bool u))) : Ev X A (.BoolOp .Or (a :: b :: es) pos) (.dat (.bool (v || u))) := fun I0 H0 σ I H rl Q q =>
  wx_of (pe_or wx_pe wx_pe) (h I0 H0 σ I H rl _ fun w I1 H1 g hv => ⟨v, dp_bool hv, by
    cases v with
    | true => exact iteT (q _ I1 H1 g (Dp.bl true))
    | false => exact iteF (h2 rfl I0 H0 σ I1 H1 (rl.grow g) Q fun y I2 H2 g2 hy => q y I2 H2 (g.trans g2) hy)⟩)

/-! ### what is walked -/
def Walks (K : PySem.W.Frag) (J : It) (I1 : Hp) (src : List PyData) : Prop :=
  (∀ (i : Nat) (d : PyData), src[i]? = some d → ∀ I2 H2, Same I1 I2 → Same I2 H2 → J.go i H2 ∧ ∀ x H3, J.yld i H2 x H3 → ∃ I3, Grow I2 H2 I3 H3 ∧ Dp K I3 x d) ∧ ∀ I2 H2, Same I1 I2 → Same I2 H2 → J.stop src.length H2
def EvI (X : Cx) (A : List C) (tg e : Expr) (src : List PyData) : Prop := ∃ wi, PI X tg e wi ∧ ∀ I0 H0 σ I H, Rel X.K I0 H0 A σ I H → ∀ R : It → Hp → Prop, (∀ J I' H', Grow I H I' H' → Walks X.K J I' src → R J H') → wi σ H R
theorem walks_list {K : PySem.W.Frag} {I1 : Hp} {a : Addr} {vs : List V} {src : List PyData} (hs : SqL K I1 a vs) (ha : DpAll K I1 vs src) : Walks K (Itl K a) I1 src := by
  refine ⟨fun i d e I2 H2 s1 s2 => ?_, fun I2 H2 s1 s2 => ⟨vs, same_l (s1.trans s2) hs, Nat.le_of_eq (dpAll_len ha)⟩⟩
  obtain ⟨v, e1, e2⟩ := dpAll_get ha e
  refine ⟨⟨vs, v, same_l (s1.trans s2) hs, e1⟩, fun x H3 ⟨e3, f⟩ => ?_⟩
  subst e3
  have e4 : x = v := Option.some.inj ((f _ (same_l (s1.trans s2) hs)).symm.trans e1)
  subst e4
  exact ⟨I2, .refl s2, dp_mono s1 e2⟩
theorem walks_tup {K : PySem.W.Frag} {I1 : Hp} {a : Addr} {vs : List V} {src : List PyData} (hs : SqT K I1 a vs) (ha : DpAll K I1 vs src) : Walks K (Itt K a) I1 src := by
  refine ⟨fun i d e I2 H2 s1 s2 => ?_, fun I2 H2 s1 s2 => ⟨vs, same_t (s1.trans s2) hs, Nat.le_of_eq (dpAll_len ha)⟩⟩
  obtain ⟨v, e1, e2⟩ := dpAll_get ha e
  refine ⟨⟨vs, v, same_t (s1.trans s2) hs, e1⟩, fun x H3 ⟨e3, f⟩ => ?_⟩
  subst e3
  have e4 : x = v := Option.some.inj ((f _ (same_t (s1.trans s2) hs)).symm.trans e1)
  subst e4
  exact ⟨I2, .refl s2, dp_mono s1 e2⟩
theorem walks_rng {K : PySem.W.Frag} {I1 : Hp} {lo : Int} {n : Nat} : Walks K (Itr lo n) I1 ((List.range n).map fun i : Nat => .int (lo + i)) := by
  refine ⟨fun i d e I2 H2 s1 s2 => ?_, fun I2 H2 s1 s2 => by show n ≤ _; simp⟩
  rw [List.getElem?_map] at e
  by_cases hi : i < n
  · rw [List.getElem?_range hi] at e
    refine ⟨hi, fun x H3 ⟨e3, f⟩ => ?_⟩
    subst e3 f
    simp at e
    subst e
    exact ⟨I2, .refl s2, .int _⟩
  · rw [List.getElem?_eq_none (by simpa using hi)] at e
    cases e
theorem ei_list {tg : Expr} {src : List PyData} (h : Ev X A e (.dat (.list src))) : EvI X A tg e src := ⟨_, pi_list wx_pe, fun I0 H0 σ I H rl R q => h I0 H0 σ I H rl _ fun v I1 H1 g hv => by
  obtain ⟨a, vs, rfl, hs, ha⟩ := dp_lst (show Dp X.K I1 v (.list src) from hv)
  exact ⟨a, rfl, ⟨vs, same_l g.ih hs⟩, q _ I1 H1 g (walks_list hs ha)⟩⟩
theorem ei_tup {tg : Expr} {src : List PyData} (h : Ev X A e (.dat (.tuple src))) : EvI X A tg e src := ⟨_, pi_tup wx_pe, fun I0 H0 σ I H rl R q => h I0 H0 σ I H rl _ fun v I1 H1 g hv => by
  obtain ⟨a, vs, rfl, hs, ha⟩ := dp_tup (show Dp X.K I1 v (.tuple src) from hv)
  exact ⟨a, rfl, ⟨vs, same_t g.ih hs⟩, q _ I1 H1 g (walks_tup hs ha)⟩⟩
theorem ei_range {tg : Expr} {n : Int} (hg : Gl X "range") (hm : X.mg "range" = none) (h : Ev X A a (.dat (.int n))) (h1 : -1000000 ≤ n) (h2 : n ≤ 1000000) (hs : starEach (a :: []) X.env = (false, eval a X.env) :: starEach [] X.env := by rfl) :
    EvI X A tg (.Call (.Name "range" p) [a] [] pos) ((List.range n.toNat).map fun i : Nat => .int (i : Int)) := ⟨_, pi_range1 hg hm (pa_cons wx_pe pa_nil hs) hs, fun I0 H0 σ I H rl R q => h I0 H0 σ I H rl _ fun v I1 H1 g hv => by
  refine ⟨n, by rw [dp_int hv], by omega, by omega, q _ I1 H1 g ?_⟩
  have w := walks_rng (K := X.K) (I1 := I1) (lo := 0) (n := n.toNat)
  simp only [Int.zero_add] at w
  exact w⟩
theorem ei_range2 {tg : Expr} {lo hi : Int} (hg : Gl X "range") (hm : X.mg "range" = none) (h : EvA X A [a, b] [.int lo, .int hi]) (h1 : -1000000 ≤ lo) (h2 : lo ≤ 1000000) (h3 : -1000000 ≤ hi) (h4 : hi ≤ 1000000) (hs : starEach [a, b] X.env = [(false, eval a X.env), (false, eval b X.env)] := by rfl) (hs2 : starEach [b] X.env = [(false, eval b X.env)] := by rfl) :
    EvI X A tg (.Call (.Name "range" p) [a, b] [] pos) ((List.range (hi - lo).toNat).map fun i : Nat => .int (lo + i)) := ⟨_, pi_range2 hg hm wa_pa hs hs2, fun I0 H0 σ I H rl R q => h I0 H0 σ I H rl _ fun vs I1 H1 g hv => by
  cases hv with
  | cons a1 a2 => cases a2 with
    | cons a2 a3 =>
      cases a3
      exact ⟨lo, hi, by rw [dp_int a1, dp_int a2], ⟨by omega, by omega, by omega, by omega⟩, q _ I1 H1 g walks_rng⟩⟩

/-! ### targets -/
theorem rel_set {K : PySem.W.Frag} {I0 H0 I H : Hp} {A : List C} {σ : L2.St} (r : Rel K I0 H0 A σ I H) {j : Nat} {v : V} {d : PyData} (hd : Dp K I v d) (hj : j < A.length) : Rel K I0 H0 (A.set j (.dat d)) (σ.set j (some v)) I H where
  gr := r.gr
  len := by rw [List.length_set, List.length_set]; exact r.len
  cell := fun i c h => by
    by_cases hi : j = i
    · subst hi
      rw [List.getElem?_set_self hj] at h
      cases h
      exact ⟨v, List.getElem?_set_self (by rw [r.len]; exact hj), hd⟩
    · rw [List.getElem?_set_ne hi] at h
      have q := r.cell i c h
      rw [List.getElem?_set_ne hi]
      exact q
  apart := fun i i' p ne o1 o2 h => by
    have ji : j ≠ i := fun e => by subst e; rw [List.getElem?_set_self hj] at o1; exact o1
    have ji' : j ≠ i' := fun e => by subst e; rw [List.getElem?_set_self hj] at o2; exact o2
    rw [List.getElem?_set_ne ji] at o1 h
    rw [List.getElem?_set_ne ji'] at o2 ⊢
    exact r.apart i i' p ne o1 o2 h
theorem rel_un {K : PySem.W.Frag} {I0 H0 I H : Hp} {A : List C} {σ : L2.St} (r : Rel K I0 H0 A σ I H) {j : Nat} {x : Option V} : Rel K I0 H0 (A.set j .un) (σ.set j x) I H where
  gr := r.gr
  len := by rw [List.length_set, List.length_set]; exact r.len
  cell := fun i c h => by
    by_cases hi : j = i
    · subst hi
      by_cases hj : j < A.length
      · rw [List.getElem?_set_self hj] at h
        cases h
        trivial
      · rw [List.getElem?_eq_none (by simpa using hj)] at h
        cases h
    · rw [List.getElem?_set_ne hi] at h
      have q := r.cell i c h
      rw [List.getElem?_set_ne hi]
      exact q
  apart := fun i i' p ne o1 o2 h => by
    have key : ∀ i, isOwn (A.set j .un)[i]? → j ≠ i := fun i o e => by
      subst e
      by_cases hj : j < A.length
      · rw [List.getElem?_set_self hj] at o; exact o
      · rw [List.getElem?_eq_none (by simpa using hj)] at o; exact o
    have ji := key i o1
    have ji' := key i' o2
    rw [List.getElem?_set_ne ji] at o1 h
    rw [List.getElem?_set_ne ji'] at o2 ⊢
    exact r.apart i i' p ne o1 o2 h
/-- a new object of the def's own to name j -/
theorem rel_own {K : PySem.W.Frag} {I0 H0 I H Hs : Hp} {A : List C} {σ : L2.St} (r : Rel K I0 H0 A σ I H) {j : Nat} {p : Addr} {o : HO} {b : Ob} (hj : j < A.length) (n0 : H0 p = none) (n : I p = none) (ho : H p = some o) (hb : ObAt K I o b)
    (far : ∀ i : Nat, isOwn A[i]? → σ[i]? ≠ some (some (.ref p))) : Rel K I0 H0 (A.set j (.own b)) (σ.set j (some (.ref p))) I H where
  gr := r.gr
  len := by rw [List.length_set, List.length_set]; exact r.len
  cell := fun i c h => by
    by_cases hi : j = i
    · subst hi
      rw [List.getElem?_set_self hj] at h
      cases h
      exact ⟨p, o, List.getElem?_set_self (by rw [r.len]; exact hj), n0, n, ho, hb⟩
    · rw [List.getElem?_set_ne hi] at h
      have q := r.cell i c h
      rw [List.getElem?_set_ne hi]
      exact q
  apart := fun i i' q ne o1 o2 h => by
    by_cases ji : j = i
    · subst ji
      rw [List.getElem?_set_self (by rw [r.len]; exact hj)] at h
      cases h
      rw [List.getElem?_set_ne ne] at o2 ⊢
      exact far i' o2
    · by_cases ji' : j = i'
      · subst ji'
        rw [List.getElem?_set_self (by rw [r.len]; exact hj)]
        rw [List.getElem?_set_ne ji] at o1 h
        intro z
        have z' := Option.some.inj (Option.some.inj z)
        injection z' with z'
        subst z'
        exact far i o1 h
      · rw [List.getElem?_set_ne ji] at o1 h
        rw [List.getElem?_set_ne ji'] at o2 ⊢
        exact r.apart i i' q ne o1 o2 h
theorem Rel.far {K : PySem.W.Frag} {I0 H0 I H : Hp} {A : List C} {σ : L2.St} (r : Rel K I0 H0 A σ I H) {p : Addr} (n : H p = none) : ∀ i : Nat, isOwn A[i]? → σ[i]? ≠ some (some (.ref p)) := fun i o e => by
  cases q : A[i]? with
  | none => rw [q] at o; exact o
  | some c =>
    rw [q] at o
    cases c with
    | own b =>
      obtain ⟨p', o', e', _, _, ho, _⟩ := r.cell i _ q
      rw [e'] at e
      have z := Option.some.inj (Option.some.inj e)
      injection z with z
      subst z
      rw [n] at ho
      cases ho
    | un => exact o
    | dat d => exact o
    | rf a => exact o
    | tpo ds es => exact o
    | kn a d => exact o
/-- a reference to name j -/
theorem rel_rf {K : PySem.W.Frag} {I0 H0 I H : Hp} {A : List C} {σ : L2.St} (r : Rel K I0 H0 A σ I H) {j : Nat} {a : Addr} (hj : j < A.length) : Rel K I0 H0 (A.set j (.rf a)) (σ.set j (some (.ref a))) I H where
  gr := r.gr
  len := by rw [List.length_set, List.length_set]; exact r.len
  cell := fun i c h => by
    by_cases hi : j = i
    · subst hi
      rw [List.getElem?_set_self hj] at h
      cases h
      exact List.getElem?_set_self (by rw [r.len]; exact hj)
    · rw [List.getElem?_set_ne hi] at h
      have q := r.cell i c h
      rw [List.getElem?_set_ne hi]
      exact q
  apart := fun i i' p ne o1 o2 h => by
    have ji : j ≠ i := fun e => by subst e; rw [List.getElem?_set_self hj] at o1; exact o1
    have ji' : j ≠ i' := fun e => by subst e; rw [List.getElem?_set_self hj] at o2; exact o2
    rw [List.getElem?_set_ne ji] at o1 h
    rw [List.getElem?_set_ne ji'] at o2 ⊢
    exact r.apart i i' p ne o1 o2 h
theorem rel_kn {K : PySem.W.Frag} {I0 H0 I H : Hp} {A : List C} {σ : L2.St} (r : Rel K I0 H0 A σ I H) {j : Nat} {a : Addr} {d : PyData} (hd : Dp K I (.ref a) d) (hj : j < A.length) : Rel K I0 H0 (A.set j (.kn a d)) (σ.set j (some (.ref a))) I H where
  gr := r.gr
  len := by rw [List.length_set, List.length_set]; exact r.len
  cell := fun i c h => by
    by_cases hi : j = i
    · subst hi
      rw [List.getElem?_set_self hj] at h
      cases h
      exact ⟨List.getElem?_set_self (by rw [r.len]; exact hj), hd⟩
    · rw [List.getElem?_set_ne hi] at h
      have q := r.cell i c h
      rw [List.getElem?_set_ne hi]
      exact q
  apart := fun i i' p ne o1 o2 h => by
    have ji : j ≠ i := fun e => by subst e; rw [List.getElem?_set_self hj] at o1; exact o1
    have ji' : j ≠ i' := fun e => by subst e; rw [List.getElem?_set_self hj] at o2; exact o2
    rw [List.getElem?_set_ne ji] at o1 h
    rw [List.getElem?_set_ne ji'] at o2 ⊢
    exact r.apart i i' p ne o1 o2 h
theorem rel_tpo {K : PySem.W.Frag} {I0 H0 I H : Hp} {A : List C} {σ : L2.St} (r : Rel K I0 H0 A σ I H) {j : Nat} {ds es : List PyData} {x : Option V} (hj : j < A.length) : Rel K I0 H0 (A.set j (.tpo ds es)) (σ.set j x) I H where
  gr := r.gr
  len := by rw [List.length_set, List.length_set]; exact r.len
  cell := fun i c h => by
    by_cases hi : j = i
    · subst hi
      rw [List.getElem?_set_self hj] at h
      cases h
      trivial
    · rw [List.getElem?_set_ne hi] at h
      have q := r.cell i c h
      rw [List.getElem?_set_ne hi]
      exact q
  apart := fun i i' p ne o1 o2 h => by
    have ji : j ≠ i := fun e => by subst e; rw [List.getElem?_set_self hj] at o1; exact o1
    have ji' : j ≠ i' := fun e => by subst e; rw [List.getElem?_set_self hj] at o2; exact o2
    rw [List.getElem?_set_ne ji] at o1 h
    rw [List.getElem?_set_ne ji'] at o2 ⊢
    exact r.apart i i' p ne o1 o2 h
/-- a value to name j -/
theorem rel_put {K : PySem.W.Frag} {I0 H0 I H I' H' : Hp} {A : List C} {σ : L2.St} (r : Rel K I0 H0 A σ I H) (g : Grow I H I' H') {j : Nat} {v : V} {c : C} (hv : VR K H I' H' v c) (hj : j < A.length) : Rel K I0 H0 (A.set j c) (σ.set j (some v)) I' H' := by
  have r' := r.grow g
  cases c with
  | un => exact rel_un r'
  | dat d => exact rel_set r' hv hj
  | own b =>
    obtain ⟨p, o, rfl, n, n', ho, hb⟩ := hv
    exact rel_own (Hs := H) r' hj (r.gr.hh.free n) n' ho hb (r.far n)
  | rf a =>
    rw [show v = .ref a from hv]
    exact rel_rf r' hj
  | tpo ds es => exact rel_tpo r' hj
  | kn a d =>
    obtain ⟨rfl, hd⟩ := (show v = .ref a ∧ Dp K I' v d from hv)
    exact rel_kn r' hd hj

/-! ### statements -/
inductive Out where
  | nx (A : List C)
  | rt (c : C)
  | ex (x : Str) (A : List C)
  | bk (A : List C)
def Fin (X : Cx) (I0 H0 I : Hp) (D : Ends) : Out → Prop
  | .nx A => ∀ σ' I' H', Same I I' → Rel X.K I0 H0 A σ' I' H' → D.nx σ' H'
  | .bk A => ∀ σ' I' H', Same I I' → Rel X.K I0 H0 A σ' I' H' → D.bk σ' H'
  | .rt c => ∀ v I' H', Same I I' → Grow I0 H0 I' H' → VR X.K H0 I' H' v c → D.rt v H'
  | .ex x A => ∃ W : WX, Takes X W ∧ ∀ σ' I' H', Same I I' → Rel X.K I0 H0 A σ' I' H' → ∀ c, X.mg x = some (.ref c) → W (.ref c) none σ' H'
def S1 (X : Cx) (A : List C) (st : Stmt) (o : Out) : Prop := ∀ I0 H0 σ I H, Rel X.K I0 H0 A σ I H → ∀ D : Ends, Fin X I0 H0 I D o → Ws X st D σ H
def Sm (X : Cx) (A : List C) (st : List Stmt) (o : Out) : Prop := ∀ I0 H0 σ I H, Rel X.K I0 H0 A σ I H → ∀ D : Ends, Fin X I0 H0 I D o → Wss X st D σ H
theorem Fin.same {I0 H0 I I1 : Hp} {D : Ends} {o : Out} (s : Same I I1) (f : Fin X I0 H0 I D o) : Fin X I0 H0 I1 D o := by
  cases o with
  | nx A => exact fun σ' I' H' s' r => f σ' I' H' (s.trans s') r
  | bk A => exact fun σ' I' H' s' r => f σ' I' H' (s.trans s') r
  | rt c => exact fun v I' H' s' g h => f v I' H' (s.trans s') g h
  | ex x A =>
    obtain ⟨W, tk, f⟩ := f
    exact ⟨W, tk, fun σ' I' H' s' r => f σ' I' H' (s.trans s') r⟩
/-- ends that agree where o looks -/
theorem Fin.nxD {I0 H0 I : Hp} {D : Ends} {o : Out} {n : L2.St → Hp → Prop} (ho : ∀ A, o ≠ .nx A) (f : Fin X I0 H0 I D o) : Fin X I0 H0 I { D with nx := n } o := by
  cases o with
  | nx A => exact absurd rfl (ho A)
  | bk A => exact f
  | rt c => exact f
  | ex x A => exact f
def Out.isNx : Out → Bool
  | .nx _ => true
  | _ => false
theorem sm_nil : Sm X A [] (.nx A) := fun I0 H0 σ I H rl D f => wss_of pss_nil (f σ I H (Same.refl _) rl)
theorem sm_cons {st : Stmt} {r : List Stmt} {A1 : List C} {o : Out} (h1 : S1 X A st (.nx A1)) (h2 : Sm X A1 r o) : Sm X A (st :: r) o := fun I0 H0 σ I H rl D f =>
  wss_of (pss_cons ws_ps wss_pss) (h1 I0 H0 σ I H rl _ fun σ' I' H' s rl' => h2 I0 H0 σ' I' H' rl' D (f.same s))
theorem sm_end {st : Stmt} {r : List Stmt} {o : Out} (h1 : S1 X A st o) (ho : o.isNx = false := by rfl) : Sm X A (st :: r) o := fun I0 H0 σ I H rl D f =>
  wss_of (pss_cons ws_ps wss_pss) (h1 I0 H0 σ I H rl _ (f.nxD fun A e => by rw [e] at ho; cases ho))
theorem sm_one {st : Stmt} {o : Out} (h1 : S1 X A st o) : Sm X A [st] o := fun I0 H0 σ I H rl D f => wss_of (pss_one ws_ps) (h1 I0 H0 σ I H rl D f)
/-- less is known behind -/
def LeC (c c' : C) : Prop := c' = .un ∨ c = c'
def LeA (A A' : List C) : Prop := A.length = A'.length ∧ ∀ (i : Nat) (c c' : C), A[i]? = some c → A'[i]? = some c' → LeC c c'
theorem LeA.rel {K : PySem.W.Frag} {I0 H0 I H : Hp} {A A' : List C} {σ : L2.St} (l : LeA A A') (r : Rel K I0 H0 A σ I H) : Rel K I0 H0 A' σ I H where
  gr := r.gr
  len := by rw [r.len, l.1]
  cell := fun i c' h => by
    have hi : i < A'.length := by
      by_cases hi : i < A'.length
      · exact hi
      · rw [List.getElem?_eq_none (by omega)] at h; cases h
    have hA : A[i]? = some (A[i]'(by rw [l.1]; exact hi)) := List.getElem?_eq_getElem _
    rcases l.2 i _ c' hA h with z | z
    · subst z; trivial
    · rw [← z]; exact r.cell i _ hA
  apart := fun i j p ne o1 o2 h => by
    have key : ∀ i : Nat, isOwn A'[i]? → isOwn A[i]? := fun i o => by
      have hi : i < A'.length := by
        by_cases hi : i < A'.length
        · exact hi
        · rw [List.getElem?_eq_none (by omega)] at o; exact o.elim
      have hA : A[i]? = some (A[i]'(by rw [l.1]; exact hi)) := List.getElem?_eq_getElem _
      have hA' : A'[i]? = some A'[i] := List.getElem?_eq_getElem _
      rcases l.2 i _ _ hA hA' with z | z
      · rw [hA', z] at o; exact o.elim
      · rw [hA, z, ← hA']; exact o
    exact r.apart i j p ne (key i o1) (key j o2) h
theorem LeA.refl : LeA A A := ⟨rfl, fun i c c' h h' => .inr (Option.some.inj (h.symm.trans h'))⟩
theorem LeA.nil : LeA [] [] := LeA.refl
theorem LeA.cons {c c' : C} {A A' : List C} (h : LeC c c') (t : LeA A A') : LeA (c :: A) (c' :: A') := ⟨by rw [List.length_cons, List.length_cons, t.1], fun i d d' h1 h2 => by
  cases i with
  | zero => simp at h1 h2; subst h1 h2; exact h
  | succ i => exact t.2 i d d' (by simpa using h1) (by simpa using h2)⟩
theorem LeC.un {c : C} : LeC c .un := .inl rfl
theorem LeC.refl {c : C} : LeC c c := .inr rfl
theorem LeC.eq {c c' : C} (h : c = c') : LeC c c' := .inr h
theorem LeC.dat {d d' : PyData} (h : d = d') : LeC (.dat d) (.dat d') := .inr (by rw [h])
theorem LeC.int {d d' : Int} (h : d = d') : LeC (.dat (.int d)) (.dat (.int d')) := .inr (by rw [h])
theorem LeC.str {d d' : Str} (h : d = d') : LeC (.dat (.str d)) (.dat (.str d')) := .inr (by rw [h])
theorem LeC.tup {d d' : List PyData} (h : d = d') : LeC (.dat (.tuple d)) (.dat (.tuple d')) := .inr (by rw [h])
theorem LeC.tupI {d d' : List Int} (h : d = d') : LeC (.dat (.tuple (d.map .int))) (.dat (.tuple (d'.map .int))) := .inr (by rw [h])
theorem LeC.own {d d' : List PyData} (h : d = d') : LeC (.own (.lst d)) (.own (.lst d')) := .inr (by rw [h])
theorem sm_le {st : List Stmt} {A1 A2 : List C} (h : Sm X A st (.nx A1)) (l : LeA A1 A2) : Sm X A st (.nx A2) := fun I0 H0 σ I H rl D f => h I0 H0 σ I H rl D fun σ' I' H' s r => f σ' I' H' s (l.rel r)
theorem s1_le {st : Stmt} {A1 A2 : List C} (h : S1 X A st (.nx A1)) (l : LeA A1 A2) : S1 X A st (.nx A2) := fun I0 H0 σ I H rl D f => h I0 H0 σ I H rl D fun σ' I' H' s r => f σ' I' H' s (l.rel r)
theorem sm_pre {st : List Stmt} {A1 : List C} {o : Out} (l : LeA A A1) (h : Sm X A1 st o) : Sm X A st o := fun I0 H0 σ I H rl D f => h I0 H0 σ I H (l.rel rl) D f

theorem lt_of_some {A : List C} {j : Nat} (h : A[j]?.isSome = true) : j < A.length := by
  by_cases hj : j < A.length
  · exact hj
  · rw [List.getElem?_eq_none (by omega)] at h; cases h
theorem s1_set (j : Nat) {c : C} {pos' : Pos} {A1 : List C} (hN : X.N.Nodup) (hi : X.N[j]? = some x) (hx : Loc X.env.scope x) (he : Ev X A e c) (hj : A[j]?.isSome = true) (hA : A.set j c = A1) (hs : swapsWith e (some (.Name x pos')) pos.line X.env = pure false := by rfl)
    (hf : X.fn x = true ∨ X.env.scope.names.lookup x = some .local := by first | exact .inl rfl | exact .inr rfl | assumption) : S1 X A (.Assign [.Name x pos'] e pos) (.nx A1) := fun I0 H0 σ I H rl D f => by
  subst hA
  exact ws_of (ps_set hN hi hx wx_pe hs hf) (he I0 H0 σ I H rl _ fun v I1 H1 g hv => f _ I1 H1 g.ii (rel_put rl g hv (lt_of_some hj)))
theorem s1_ret {c : C} (he : Ev X A e c) : S1 X A (.Return (some e) pos) (.rt c) := fun I0 H0 σ I H rl D f =>
  ws_of (ps_ret wx_pe) (he I0 H0 σ I H rl _ fun v I1 H1 g hv => f v I1 H1 g.ii (rl.gr.trans g) (hv.back rl.gr.hh))
/-- return of the def's own list -/
theorem s1_retO (j : Nat) {ob : Ob} (hN : X.N[j]? = some x) (hA : A[j]? = some (.own ob)) (hv : Vis X.env.scope x) (hd : (x == ("__debug__" : Str)) = false := by decide) (hcd : (x == ("__classdict__" : Str)) = false := by decide) :
    S1 X A (.Return (some (.Name x p)) pos) (.rt (.own ob)) := fun I0 H0 σ I H rl D f => by
  obtain ⟨q, o, e, n0, n, ho, hb⟩ := rl.cell j _ hA
  exact ws_of (ps_ret (pe_var hN hv hd hcd)) ⟨.ref q, e, f _ I H (Same.refl _) rl.gr ⟨q, o, rfl, n0, n, ho, hb⟩⟩
theorem s1_if {v : Bool} {s1 s2 : List Stmt} {o : Out} (hc : Et X A a v) (h1 : v = true → Sm X A s1 o) (h2 : v = false → Sm X A s2 o) : S1 X A (.If a s1 s2 pos) o := fun I0 H0 σ I H rl D f =>
  ws_of (ps_if wt_pe wss_pss wss_pss) (hc I0 H0 σ I H rl _ fun I1 H1 g => by
    cases v with
    | true => exact iteT (h1 rfl I0 H0 σ I1 H1 (rl.grow g) D (f.same g.ii))
    | false => exact iteF (h2 rfl I0 H0 σ I1 H1 (rl.grow g) D (f.same g.ii)))
/-- xs.append(e), xs the def's own list -/
theorem s1_append (j : Nat) {ds : List PyData} {d : PyData} {A1 : List C} {p3 p4 : Pos} (hN : X.N[j]? = some x) (hA : A[j]? = some (.own (.lst ds))) (hv : Vis X.env.scope x) (he : Ev X A e (.dat d)) (hz : ds.length < sizeLine) (hA1 : A.set j (.own (.lst (ds ++ [d]))) = A1)
    (hd : (x == ("__debug__" : Str)) = false := by decide) (hcd : (x == ("__classdict__" : Str)) = false := by decide) (hs : starEach (e :: []) X.env = (false, eval e X.env) :: starEach [] X.env := by rfl) (hpl : ((backTo p3 (starEach (e :: []) X.env)).all (fun x => !x.1) && (backToKw p3 (keywordEach [] X.env)).all (fun x => x.1.isSome) && decide (([e] : List Expr).length + ([] : List Keyword).length + (if ([] : List Keyword).isEmpty then 0 else 1) < 30)) = true := by rfl) (hline : (p2.endLine == p3.line) = true := by rfl)
    (hsw : swapsWith (.Call (.Attribute (.Name x p) "append" p2) [e] [] p3) none p4.line X.env = pure false := by rfl) : S1 X A (.Expr (.Call (.Attribute (.Name x p) "append" p2) [e] [] p3) p4) (.nx A1) := fun I0 H0 σ I H rl D f => by
  subst hA1
  have hj : j < A.length := by
    by_cases hj : j < A.length
    · exact hj
    · rw [List.getElem?_eq_none (by omega)] at hA; cases hA
  obtain ⟨q, o, e1, n0, n, ho, hb⟩ := rl.cell j _ hA
  obtain ⟨vs, rfl, ha⟩ := obAt_lst hb
  refine ws_of (ps_expr (pe_bm PySem.F.plainAttrs_list PySem.F.slot_list_append PySem.F.type_list_append mt_append (pe_var hN hv hd hcd) (pa_cons wx_pe pa_nil hs) (hfew := hpl) (hline := hline) (hs := hs) (hplain := rfl)) hsw) ⟨.ref q, e1, .inl ⟨rfl, _, .inl (.inl ho)⟩, ?_⟩
  refine he I0 H0 σ I H rl _ fun v I1 H1 g hv1 => ⟨q, vs, v, rfl, rfl, g.hh _ _ ho, by rw [dpAll_len ha]; exact hz, ?_⟩
  have n1 := g.nw q _ ho n
  have r1 := rl.grow g
  refine f σ I1 _ g.ii ⟨r1.gr.mut n0 n1, by rw [List.length_set]; exact r1.len, fun i c hc => ?_, fun i i' r ne o1 o2 h => ?_⟩
  · by_cases hi : j = i
    · subst hi
      rw [List.getElem?_set_self hj] at hc
      cases hc
      exact ⟨q, _, e1, n0, n1, upd_same, dpAll_append (dpAll_mono g.ii ha) (dpAll_one hv1)⟩
    · rw [List.getElem?_set_ne hi] at hc
      have z := r1.cell i c hc
      cases c with
      | un => trivial
      | rf a => exact z
      | tpo ds es => trivial
      | kn a d => exact z
      | dat d => exact z
      | own b =>
        obtain ⟨q2, o2, e2, m0, m, ho2, hb2⟩ := z
        refine ⟨q2, o2, e2, m0, m, ?_, hb2⟩
        have hne : q2 ≠ q := fun z => by
          subst z
          exact rl.apart j i q2 hi (by rw [hA]; trivial) (by rw [hc]; trivial) e1 e2
        rw [upd_ne hne]
        exact ho2
  · have key : ∀ i : Nat, isOwn (A.set j (.own (.lst (ds ++ [d]))))[i]? → isOwn A[i]? := fun i o => by
      by_cases hi : j = i
      · subst hi; rw [hA]; trivial
      · rw [List.getElem?_set_ne hi] at o; exact o
    exact r1.apart i i' r ne (key i o1) (key i' o2) h
/-- a name of the def's own list is from now on data -/
theorem sm_frz (j : Nat) {ds : List PyData} {st : List Stmt} {o : Out} (hA : A[j]? = some (.own (.lst ds))) (h : Sm X (A.set j (.dat (.list ds))) st o) : Sm X A st o := fun I0 H0 σ I H rl D f => by
  have hj : j < A.length := by
    by_cases hj : j < A.length
    · exact hj
    · rw [List.getElem?_eq_none (by omega)] at hA; cases hA
  obtain ⟨q, o', e1, n0, n, ho, hb⟩ := rl.cell j _ hA
  obtain ⟨vs, rfl, ha⟩ := obAt_lst hb
  have s2 : Same I (upd I q (.lst vs)) := fun b u z => by rw [upd_ne (ne_of_none z n)]; exact z
  refine h I0 H0 σ (upd I q (.lst vs)) H ⟨rl.gr.know n0 n ho, by rw [List.length_set]; exact rl.len, fun i c hc => ?_, fun i i' r ne o1 o2 hr => ?_⟩ D (f.same s2)
  · by_cases hi : j = i
    · subst hi
      rw [List.getElem?_set_self hj] at hc
      cases hc
      exact ⟨.ref q, e1, .lst (.inl (.inl upd_same)) (dpAll_mono s2 ha)⟩
    · rw [List.getElem?_set_ne hi] at hc
      have z := rl.cell i c hc
      cases c with
      | un => trivial
      | rf a => exact z
      | tpo ds es => trivial
      | kn a d => exact ⟨z.1, dp_mono s2 z.2⟩
      | dat d => obtain ⟨v, e2, hd⟩ := z; exact ⟨v, e2, dp_mono s2 hd⟩
      | own b =>
        obtain ⟨q2, o2, e2, m0, m, ho2, hb2⟩ := z
        have hne : q2 ≠ q := fun z => by
          subst z
          exact rl.apart j i q2 hi (by rw [hA]; trivial) (by rw [hc]; trivial) e1 e2
        exact ⟨q2, o2, e2, m0, by rw [upd_ne hne]; exact m, ho2, obAt_mono s2 hb2⟩
  · have key : ∀ i : Nat, isOwn (A.set j (.dat (.list ds)))[i]? → isOwn A[i]? := fun i o => by
      by_cases hi : j = i
      · subst hi; rw [hA]; trivial
      · rw [List.getElem?_set_ne hi] at o; exact o
    exact rl.apart i i' r ne (key i o1) (key i' o2) hr
end
end LR

set_option Elab.async false
set_option linter.all false
set_option maxRecDepth 100000
set_option maxHeartbeats 4000000
/-! The layer LR, part d: comprehensions, for, while, raise, the rule of a def. -/
namespace LR
open PySem PySem.Spec PyProof.Rows L2

section
variable {X : Cx} {e a b : Expr} {es : List Expr} {σ : L2.St} {H : Hp} {Q : VK} {A : List C} {pos p p2 : Pos} {x : Str}

/-- what a target does: U says how the state of the names becomes -/
structure TgOk (K : PySem.W.Frag) (g : TG) (U : List C → PyData → List C → Prop) : Prop where
  run : ∀ I0 H0 σ I H A d A' v, U A d A' → Rel K I0 H0 A σ I H → Dp K I v d → ∀ Q : L2.St → Hp → Prop, (∀ σ', Rel K I0 H0 A' σ' I H → Q σ' H) → g v σ H Q
def uName (j : Nat) : List C → PyData → List C → Prop := fun A d A' => A[j]?.isSome = true ∧ A' = A.set j (.dat d)
def uNames : List Nat → List C → List PyData → List C → Prop
  | [], A, ds, A' => ds = [] ∧ A' = A
  | j :: js, A, ds, A' => ∃ d r, ds = d :: r ∧ A[j]?.isSome = true ∧ uNames js (A.set j (.dat d)) r A'
def uTup (js : List Nat) : List C → PyData → List C → Prop := fun A d A' => ∃ ds, d = .tuple ds ∧ uNames js A ds A'
theorem tg_name {K : PySem.W.Frag} {j : Nat} : TgOk K (gName j) (uName j) := ⟨fun I0 H0 σ I H A d A' v ⟨hj, e⟩ r hd Q q => by subst e; exact q _ (rel_set r hd (lt_of_some hj))⟩
def gNames : List Nat → TGs
  | [] => gNil
  | j :: js => gCons (gName j) (gNames js)
theorem tg_names {K : PySem.W.Frag} : ∀ {js : List Nat} {I0 H0 : Hp} {σ : L2.St} {I H : Hp} {A A' : List C} {ds : List PyData} {vs : List V}, uNames js A ds A' → Rel K I0 H0 A σ I H → DpAll K I vs ds → ∀ Q : L2.St → Hp → Prop, (∀ σ', Rel K I0 H0 A' σ' I H → Q σ' H) → gNames js vs σ H Q
  | [], _, _, _, _, _, _, _, _, _, ⟨e1, e2⟩, r, hv, Q, q => by subst e1 e2; cases hv; exact ⟨rfl, q _ r⟩
  | j :: js, I0, H0, σ, I, H, A, A', ds, vs, ⟨d, rd, e1, hj, u⟩, r, hv, Q, q => by
    subst e1
    cases hv with
    | cons h1 h2 => exact ⟨_, _, rfl, tg_names u (rel_set r h1 (lt_of_some hj)) h2 Q q⟩
theorem uNames_len : ∀ {js : List Nat} {A A' : List C} {ds : List PyData}, uNames js A ds A' → ds.length = js.length
  | [], _, _, _, ⟨e, _⟩ => by subst e; rfl
  | j :: js, _, _, _, ⟨d, r, e, _, u⟩ => by subst e; rw [List.length_cons, List.length_cons, uNames_len u]
theorem tg_tup {K : PySem.W.Frag} {js : List Nat} : TgOk K (gTup K js.length (gNames js)) (uTup js) := ⟨fun I0 H0 σ I H A d A' v ⟨ds, e, u⟩ r hd Q q => by
  subst e
  obtain ⟨p, vs, rfl, hs, ha⟩ := dp_tup hd
  exact ⟨p, vs, rfl, same_t r.ih hs, by rw [dpAll_len ha, uNames_len u], tg_names u r ha Q q⟩⟩

/-! ### for -/
inductive ExitOf : Out → Out → Prop
  | rt (c : C) : ExitOf (.rt c) (.rt c)
  | ex (x : Str) (A : List C) : ExitOf (.ex x A) (.ex x A)
  | bk (A : List C) : ExitOf (.bk A) (.nx A)
theorem s1_for {tg : Expr} {body : List Stmt} {src : List PyData} {g : TG} {U : List C → PyData → List C → Prop} {o : Out} (hp : PassesOwn (model X.prog X.w) X.A X.env X.xe) (hc : X.calm = true) (hi : EvI X A tg e src) (hg : PG X tg g) (ht : TgOk X.K g U)
    (inv : Nat → List C) (n : Nat) (hn : n ≤ src.length) (h0 : LeA A (inv 0))
    (hb : ∀ (i : Nat) (d : PyData), i < n → src[i]? = some d → ∃ A1, U (inv i) d A1 ∧ Sm X A1 body (.nx (inv (i + 1))))
    (he : (n = src.length ∧ o = .nx (inv n)) ∨ ∃ d A1 o', src[n]? = some d ∧ U (inv n) d A1 ∧ Sm X A1 body o' ∧ ExitOf o' o) (hs : ∀ x, foldedSetIterable e X.env x = pure x := by intro _; rfl) : S1 X A (.For tg e body [] pos) o := fun I0 H0 σ I H rl D f => by
  obtain ⟨wi, hpi, hwi⟩ := hi
  refine ws_of (ps_for hp hc hpi hg wss_pss hs) (hwi I0 H0 σ I H rl _ fun J I1 H1 g1 hJ => ?_)
  have f1 := f.same g1.ii
  refine ⟨fun i m σ' H' => m = n - i ∧ i ≤ n ∧ ∃ I', Same I1 I' ∧ Rel X.K I0 H0 (inv i) σ' I' H', ⟨n, by simp, Nat.zero_le _, I1, Same.refl _, h0.rel (rl.grow g1)⟩, ?_⟩
  rintro i m σ' H' ⟨rfl, hin, I', s1, r'⟩
  by_cases hlt : i < n
  · have hd : src[i]? = some (src[i]'(by omega)) := List.getElem?_eq_getElem _
    obtain ⟨go, yl⟩ := hJ.1 i _ hd I' H' s1 r'.ih
    refine .inr ⟨go, fun σ2 H2 => ∃ I2, Same I1 I2 ∧ Rel X.K I0 H0 (inv (i + 1)) σ2 I2 H2, fun σ2 H2 ⟨I2, s2, r2⟩ => ⟨n - (i + 1), by omega, rfl, hlt, I2, s2, r2⟩, fun v H3 hy => ?_⟩
    obtain ⟨I3, g3, hv⟩ := yl v H3 hy
    obtain ⟨A1, hU, hS⟩ := hb i _ hlt hd
    refine ht.run I0 H0 σ' I3 H3 _ _ A1 v hU (r'.grow g3) hv _ fun σ2 r2 => ?_
    have q := hS I0 H0 σ2 I3 H3 r2 { D with nx := fun σ2 H2 => ∃ I2, Same I1 I2 ∧ Rel X.K I0 H0 (inv (i + 1)) σ2 I2 H2, ct := fun σ2 H2 => ∃ I2, Same I1 I2 ∧ Rel X.K I0 H0 (inv (i + 1)) σ2 I2 H2, bk := D.nx }
      fun σ4 I4 H4 s4 r4 => ⟨I4, (s1.trans g3.ii).trans s4, r4⟩
    exact q
  · have ein : i = n := by omega
    subst ein
    rcases he with ⟨e1, e2⟩ | ⟨d, A1, o', hd, hU, hS, hx⟩
    · subst e2
      refine .inl ⟨?_, ?_⟩
      · rw [e1]; exact hJ.2 I' H' s1 r'.ih
      · exact f1 σ' I' H' s1 r'
    · obtain ⟨go, yl⟩ := hJ.1 i _ hd I' H' s1 r'.ih
      refine .inr ⟨go, fun _ _ => False, fun _ _ h => h.elim, fun v H3 hy => ?_⟩
      obtain ⟨I3, g3, hv⟩ := yl v H3 hy
      refine ht.run I0 H0 σ' I3 H3 _ _ A1 v hU (r'.grow g3) hv _ fun σ2 r2 => ?_
      refine hS I0 H0 σ2 I3 H3 r2 { D with nx := fun _ _ => False, ct := fun _ _ => False, bk := D.nx } ?_
      have f3 := f1.same (s1.trans g3.ii)
      cases hx with
      | rt c => exact f3
      | ex x A => exact f3
      | bk A => exact f3
/-! ### while -/
theorem s1_while {c : Expr} {body : List Stmt} {o : Out} (hp : PassesOwn (model X.prog X.w) X.A X.env X.xe) (inv : Nat → List C) (n : Nat) (h0 : LeA A (inv 0))
    (hb : ∀ i, i < n → Et X (inv i) c true ∧ Sm X (inv i) body (.nx (inv (i + 1))))
    (he : (Et X (inv n) c false ∧ o = .nx (inv n)) ∨ ∃ o', Et X (inv n) c true ∧ Sm X (inv n) body o' ∧ ExitOf o' o) : S1 X A (.While c body [] pos) o := fun I0 H0 σ I H rl D f => by
  refine ws_of (ps_while hp wt_pe wss_pss) ?_
  refine ⟨fun m σ' H' => ∃ i, m = n - i ∧ i ≤ n ∧ ∃ I', Same I I' ∧ Rel X.K I0 H0 (inv i) σ' I' H', ⟨n, 0, by simp, Nat.zero_le _, I, Same.refl _, h0.rel rl⟩, ?_⟩
  rintro m σ' H' ⟨i, rfl, hin, I', s1, r'⟩
  by_cases hlt : i < n
  · obtain ⟨hc, hS⟩ := hb i hlt
    refine hc I0 H0 σ' I' H' r' _ fun I2 H2 g2 => ?_
    refine iteT ⟨fun σ2 H2 => ∃ I2, Same I I2 ∧ Rel X.K I0 H0 (inv (i + 1)) σ2 I2 H2, fun σ2 H2 ⟨I2, s2, r2⟩ => ⟨n - (i + 1), by omega, i + 1, rfl, hlt, I2, s2, r2⟩, ?_⟩
    exact hS I0 H0 σ' I2 H2 (r'.grow g2) _ fun σ4 I4 H4 s4 r4 => ⟨I4, (s1.trans g2.ii).trans s4, r4⟩
  · have ein : i = n := by omega
    subst ein
    have f1 := f.same s1
    rcases he with ⟨hc, e2⟩ | ⟨o', hc, hS, hx⟩
    · subst e2
      exact hc I0 H0 σ' I' H' r' _ fun I2 H2 g2 => iteF (f1 σ' I2 H2 g2.ii (r'.grow g2))
    · refine hc I0 H0 σ' I' H' r' _ fun I2 H2 g2 => iteT ⟨fun _ _ => False, fun _ _ h => h.elim, ?_⟩
      refine hS I0 H0 σ' I2 H2 (r'.grow g2) _ ?_
      have f3 := f1.same g2.ii
      cases hx with
      | rt c => exact f3
      | ex x A => exact f3
      | bk A => exact f3

/-! ### list comprehensions -/
def blkOf (X : Cx) (scope : Scope) (s : Shared) (H : Hp) (C : Addr) (cl : List (Str × Addr)) (fp : List Addr) : Cx := X.blk s H scope (compEnvC scope cl C X.env) fp
/-- .. in every block of it -/
def EvB (X : Cx) (scope : Scope) (A : List C) (e : Expr) (d : PyData) : Prop := ∀ s H C cl fp, Ev (X.blk s H scope (compEnvC scope cl C X.env) fp) A e (.dat d)
def EtB (X : Cx) (scope : Scope) (A : List C) (ifs : List Expr) (v : Bool) : Prop := match ifs with
  | [] => v = true
  | [c] => ∀ s H C cl fp, Et (X.blk s H scope (compEnvC scope cl C X.env) fp) A c v
  | _ => False
theorem rel_out {K : PySem.W.Frag} {I0 H0 I H : Hp} {A : List C} {σ : L2.St} {D : Addr} {o : HO} (r : Rel K I0 H0 A σ I H) (n0 : H0 D = none) (n : I D = none) (far : ∀ i : Nat, isOwn A[i]? → σ[i]? ≠ some (some (.ref D))) : Rel K I0 H0 A σ I (upd H D o) where
  gr := r.gr.mut n0 n
  len := r.len
  cell := fun i c h => by
    have z := r.cell i c h
    cases c with
    | un => trivial
    | rf a => exact z
    | tpo ds es => trivial
    | kn a d => exact z
    | dat d => exact z
    | own b =>
      obtain ⟨q, o2, e, m0, m, ho, hb⟩ := z
      have hne : q ≠ D := fun z => by
        subst z
        exact far i (by rw [h]; trivial) e
      exact ⟨q, o2, e, m0, m, by rw [upd_ne hne]; exact ho, hb⟩
  apart := r.apart
def wipeA (A : List C) : List Nat → List C
  | [] => A
  | v :: vs => (wipeA A vs).set v .un
theorem rel_wipe {K : PySem.W.Frag} {I0 H0 I H : Hp} {A : List C} {σ : L2.St} (r : Rel K I0 H0 A σ I H) : ∀ vs : List Nat, Rel K I0 H0 (wipeA A vs) (wipe σ vs) I H
  | [] => r
  | v :: vs => rel_un (rel_wipe r vs)
theorem isOwn_wipe {A : List C} {i : Nat} : ∀ {vs : List Nat}, isOwn (wipeA A vs)[i]? → isOwn A[i]? ∧ i ∉ vs
  | [], h => ⟨h, by simp⟩
  | v :: vs, h => by
    unfold wipeA at h
    by_cases hv : v = i
    · subst hv
      by_cases hl : v < (wipeA A vs).length
      · rw [List.getElem?_set_self hl] at h; exact h.elim
      · rw [List.getElem?_eq_none (by simpa using hl)] at h; exact h.elim
    · rw [List.getElem?_set_ne hv] at h
      obtain ⟨h1, h2⟩ := isOwn_wipe (vs := vs) h
      exact ⟨h1, by simp [h2]; exact fun z => hv z.symm⟩
/-- the block's target stores to the block's own names alone -/
structure TgW (g : TG) (vs : List Nat) : Prop where
  run : ∀ v σ H Q, g v (wipe σ vs) H Q → g v (wipe σ vs) H fun σ2 H2 => wipe σ2 vs = wipe σ vs ∧ Q σ2 H2
theorem set_set_none {σ : L2.St} {j : Nat} {x : Option V} : ((σ.set j none).set j x).set j none = σ.set j none := by rw [List.set_set, List.set_set]
theorem tgw_name {j : Nat} : TgW (gName j) [j] := ⟨fun v σ H Q q => ⟨by
  show ((σ.set j none).set j (some v)).set j none = σ.set j none
  exact set_set_none, q⟩⟩
theorem tgw_two {K : PySem.W.Frag} {i j : Nat} (hij : i ≠ j) : TgW (gTup K [i, j].length (gNames [i, j])) [i, j] := ⟨fun v σ H Q q => by
  obtain ⟨a, xs, e1, hs, hl, v1, r1, e2, v2, r2, e3, e4, q⟩ := q
  refine ⟨a, xs, e1, hs, hl, v1, r1, e2, v2, r2, e3, e4, (by
  show (List.set (List.set ((List.set (List.set (List.set (List.set σ j none) i none) i (some v1)) j (some v2))) j none) i none) = List.set (List.set σ j none) i none
  apply List.ext_getElem?
  intro k
  simp only [List.getElem?_set, List.length_set]
  by_cases h1 : i = k
  · simp [h1]
  · by_cases h2 : j = k
    · simp [h1, h2]
    · simp [h1, h2]), q⟩⟩
theorem lc_both {α : Type} {elt tg iter : Expr} {ifs : List Expr} {scope : Scope} {own : List (Str × Nat)} {g : TG} {U : List C → PyData → List C → Prop} {src : List PyData} (xs : List α) (enc : α → PyData) (pr : α → Bool) (f : α → PyData)
    (hc : X.calm = true) (hN : X.N.Nodup) (hi : EvI X A tg iter src) (hsrc : src = xs.map enc) (ok : BlkOk X.N X.env.scope scope own)
    (hg : ∀ (s : Shared) (H : Hp) (C : Addr) (cl : List (Str × Addr)) (fp : List Addr), PG (X.blk s H scope (compEnvC scope cl C X.env) fp) tg g) (ht : TgOk X.K g U) (hw : TgW g (own.map (·.2)))
    (hl : ifs.length ≤ 1) (hz : xs.length < sizeLine)
    (hb : ∀ x, x ∈ xs → ∃ A1, U (wipeA A (own.map (·.2))) (enc x) A1 ∧ EtB X scope A1 ifs (pr x) ∧ (pr x = true → EvB X scope A1 elt (f x)))
    (hs : ∀ x, foldedSetIterable iter X.env x = pure x := by intro _; rfl) :
    ∃ t : TE, PE X (.ListComp elt [⟨tg, iter, ifs, 0⟩] scope pos) t ∧ (∀ (i : Nat) (y : Str) (py spos : Pos), X.N[i]? = some y → X.env.scope.names.lookup y = some .local → swapsWith (.ListComp elt [⟨tg, iter, ifs, 0⟩] scope pos) (some (.Name y py)) spos.line X.env = pure true →
      PS X (.Assign [.Name y py] (.ListComp elt [⟨tg, iter, ifs, 0⟩] scope pos) spos) (tAsg t (gName i))) ∧ ∀ I0 H0 σ I H, Rel X.K I0 H0 A σ I H → ∀ Q : VK, (∀ v I' H', Grow I H I' H' → VR X.K H I' H' v (.own (.lst ((xs.filter pr).map f))) → Q v H') → t σ H Q := by
  subst hsrc
  obtain ⟨wi, hpi, hwi⟩ := hi
  let te : TE := fun σ H Q => ∀ s H' C cl fp, Wx (X.blk s H' scope (compEnvC scope cl C X.env) fp) elt σ H Q
  let tt : TT := match ifs with
    | [] => tYes
    | c :: _ => fun σ H Q => ∀ s H' C cl fp, Wt (X.blk s H' scope (compEnvC scope cl C X.env) fp) c σ H Q
  have htt : ∀ (s : Shared) (H : Hp) (C : Addr) (cl : List (Str × Addr)) (fp : List Addr), PTs (X.blk s H scope (compEnvC scope cl C X.env) fp) ifs tt := fun s H C cl fp => by
    cases ifs with
    | nil => exact pts_nil
    | cons c r =>
      cases r with
      | nil => exact pts_one ⟨fun pins s' σ H' Q I h => h s H C cl fp pins s' I⟩
      | cons c2 r => simp at hl
  refine ⟨_, pe_lc hc hN hpi ok hg htt (te := te) (fun s H C cl fp => ⟨fun pins s' σ H' Q I h => h s H C cl fp pins s' I⟩) hs, fun i y py spos h1 h2 h3 => ps_setLc hc hN h1 h2 h3 hpi ok hg htt (te := te) (fun s H C cl fp => ⟨fun pins s' σ H' Q I h => h s H C cl fp pins s' I⟩) hs, fun I0 H0 σ I H rl Q q => ?_⟩
  refine hwi I0 H0 σ I H rl _ fun J I1 H1 g1 hJ D hD => ?_
  have r1 := rl.grow g1
  have n0 : H0 D = none := r1.gr.hh.free hD
  have far : ∀ i : Nat, isOwn (wipeA A (own.map (·.2)))[i]? → (wipe σ (own.map (·.2)))[i]? ≠ some (some (.ref D)) := fun i o => by
    obtain ⟨o1, o2⟩ := isOwn_wipe o
    rw [wipe_out o2]
    exact r1.far hD i o1
  refine ⟨fun i m H' => m = xs.length - i ∧ i ≤ xs.length ∧ ∃ I' acc, Same I1 I' ∧ Grow I H I' H' ∧ I' D = none ∧ H' D = some (.lst acc) ∧ DpAll X.K I' acc (((xs.take i).filter pr).map f) ∧ Rel X.K I0 H0 (wipeA A (own.map (·.2))) (wipe σ (own.map (·.2))) I' H',
    ⟨xs.length, by simp, Nat.zero_le _, I1, [], Same.refl _, g1.mut (g1.hh.free hD) (g1.ih.free hD), g1.ih.free hD, upd_same, .nil, rel_out (rel_wipe r1 _) n0 (g1.ih.free hD) far⟩, ?_⟩
  rintro i m H' ⟨rfl, hin, I', acc, s1, gg, nD, hacc, hda, r'⟩
  by_cases hlt : i < xs.length
  · have hx : xs[i]? = some xs[i] := List.getElem?_eq_getElem _
    have hd : (xs.map enc)[i]? = some (enc xs[i]) := by rw [List.getElem?_map, hx]; rfl
    obtain ⟨go, yl⟩ := hJ.1 i _ hd I' H' s1 r'.ih
    refine .inr ⟨go, fun H2 => ∃ I2 acc, Same I1 I2 ∧ Grow I H I2 H2 ∧ I2 D = none ∧ H2 D = some (.lst acc) ∧ DpAll X.K I2 acc (((xs.take (i + 1)).filter pr).map f) ∧ Rel X.K I0 H0 (wipeA A (own.map (·.2))) (wipe σ (own.map (·.2))) I2 H2,
      fun H2 ⟨I2, acc2, z⟩ => ⟨xs.length - (i + 1), by omega, rfl, hlt, I2, acc2, z⟩, fun v H3 hy => ?_⟩
    obtain ⟨I3, g3, hv⟩ := yl v H3 hy
    obtain ⟨A1, hU, hT, hE⟩ := hb xs[i] (List.getElem_mem _)
    have r3 := r'.grow g3
    refine hw.run v σ H3 _ (ht.run I0 H0 _ I3 H3 _ _ A1 v hU r3 hv _ fun σ2 r2 => ?_)
    have tk : ((xs.take (i + 1)).filter pr).map f = ((xs.take i).filter pr).map f ++ (if pr xs[i] then [f xs[i]] else []) := by
      rw [List.take_add_one, hx, List.filter_append, List.map_append]
      congr 1
      cases hp : pr xs[i] <;> simp [hp]
    have nD3 := g3.nw D _ hacc nD
    have fin : ∀ I4 H4, Grow I3 H3 I4 H4 → (if pr xs[i] = true then te σ2 H4 fun y H5 => ∃ acc, H5 D = some (.lst acc) ∧ acc.length < sizeLine ∧ ∃ I2 acc', Same I1 I2 ∧ Grow I H I2 (upd H5 D (.lst (acc ++ [y]))) ∧ I2 D = none ∧ (upd H5 D (.lst (acc ++ [y]))) D = some (.lst acc') ∧ DpAll X.K I2 acc' (((xs.take (i + 1)).filter pr).map f) ∧ Rel X.K I0 H0 (wipeA A (own.map (·.2))) (wipe σ (own.map (·.2))) I2 (upd H5 D (.lst (acc ++ [y])))
        else ∃ I2 acc, Same I1 I2 ∧ Grow I H I2 H4 ∧ I2 D = none ∧ H4 D = some (.lst acc) ∧ DpAll X.K I2 acc (((xs.take (i + 1)).filter pr).map f) ∧ Rel X.K I0 H0 (wipeA A (own.map (·.2))) (wipe σ (own.map (·.2))) I2 H4) := fun I4 H4 g4 => by
      have nD4 := g4.nw D _ (g3.hh _ _ hacc) nD3
      cases hp : pr xs[i] with
      | true =>
        rw [if_pos rfl]
        intro s5 H5' C5 cl5 fp5
        refine hE hp s5 H5' C5 cl5 fp5 I0 H0 σ2 I4 H4 (r2.grow g4) _ fun y I5 H5 g5 hy => ?_
        have nD5 := g5.nw D _ (g4.hh _ _ (g3.hh _ _ hacc)) nD4
        have g35 := (g3.trans g4).trans g5
        refine ⟨acc, g35.hh _ _ hacc, ?_, I5, acc ++ [y], s1.trans g35.ii, (gg.trans g35).mut (g1.hh.free hD) nD5, nD5, upd_same, ?_, ?_⟩
        · have e1 := dpAll_len hda
          rw [List.length_map] at e1
          have e2 := List.length_filter_le pr (xs.take i)
          rw [List.length_take] at e2
          omega
        · rw [tk, hp, if_pos rfl]
          exact dpAll_append (dpAll_mono g35.ii hda) (dpAll_one hy)
        · exact rel_out (r'.grow g35) n0 nD5 far
      | false =>
        rw [if_neg Bool.false_ne_true]
        have g34 := g3.trans g4
        refine ⟨I4, acc, s1.trans g34.ii, gg.trans g34, nD4, g34.hh _ _ hacc, ?_, r'.grow g34⟩
        rw [tk, hp, if_neg Bool.false_ne_true, List.append_nil]
        exact dpAll_mono g34.ii hda
    cases ifs with
    | nil =>
      have hT' : pr xs[i] = true := by have hT2 := hT; simp only [EtB] at hT2; exact hT2
      have z := fin I3 H3 (.refl r2.ih)
      rw [if_pos hT'] at z
      exact (show ∀ (k : Bool → Hp → Prop), k true H3 → tt σ2 H3 k from fun k h => h) _ (by
        dsimp only
        rw [if_pos rfl]
        exact z)
    | cons c r =>
      cases r with
      | cons c2 r => simp at hl
      | nil =>
        intro s5 H5' C5 cl5 fp5
        exact hT s5 H5' C5 cl5 fp5 I0 H0 σ2 I3 H3 r2 _ fun I4 H4 g4 => fin I4 H4 g4
  · have ein : i = xs.length := by omega
    subst ein
    refine .inl ⟨?_, ?_⟩
    · have z := hJ.2 I' H' s1 r'.ih
      rw [List.length_map] at z
      exact z
    · rw [List.take_length] at hda
      exact q _ I' H' gg ⟨D, .lst acc, rfl, g1.hh.free hD, nD, hacc, hda⟩
theorem ev_lc {α : Type} {elt tg iter : Expr} {ifs : List Expr} {scope : Scope} {own : List (Str × Nat)} {g : TG} {U : List C → PyData → List C → Prop} {src : List PyData} (xs : List α) (enc : α → PyData) (pr : α → Bool) (f : α → PyData)
    (hc : X.calm = true) (hN : X.N.Nodup) (hi : EvI X A tg iter src) (hsrc : src = xs.map enc) (ok : BlkOk X.N X.env.scope scope own)
    (hg : ∀ (s : Shared) (H : Hp) (C : Addr) (cl : List (Str × Addr)) (fp : List Addr), PG (X.blk s H scope (compEnvC scope cl C X.env) fp) tg g) (ht : TgOk X.K g U) (hw : TgW g (own.map (·.2)))
    (hl : ifs.length ≤ 1) (hz : xs.length < sizeLine)
    (hb : ∀ x, x ∈ xs → ∃ A1, U (wipeA A (own.map (·.2))) (enc x) A1 ∧ EtB X scope A1 ifs (pr x) ∧ (pr x = true → EvB X scope A1 elt (f x)))
    (hs : ∀ x, foldedSetIterable iter X.env x = pure x := by intro _; rfl) : Ev X A (.ListComp elt [⟨tg, iter, ifs, 0⟩] scope pos) (.own (.lst ((xs.filter pr).map f))) := fun I0 H0 σ I H rl Q q => by
  obtain ⟨t, hp, _, h⟩ := lc_both xs enc pr f hc hN hi hsrc ok hg ht hw hl hz hb hs
  exact wx_of hp (h I0 H0 σ I H rl Q q)
theorem s1_setLc {α : Type} {elt tg iter : Expr} {ifs : List Expr} {scope : Scope} {own : List (Str × Nat)} {g : TG} {U : List C → PyData → List C → Prop} {src : List PyData} (xs : List α) (enc : α → PyData) (pr : α → Bool) (f : α → PyData)
    (hc : X.calm = true) (hN : X.N.Nodup) (hi : EvI X A tg iter src) (hsrc : src = xs.map enc) (ok : BlkOk X.N X.env.scope scope own)
    (hg : ∀ (s : Shared) (H : Hp) (C : Addr) (cl : List (Str × Addr)) (fp : List Addr), PG (X.blk s H scope (compEnvC scope cl C X.env) fp) tg g) (ht : TgOk X.K g U) (hw : TgW g (own.map (·.2)))
    (hl : ifs.length ≤ 1) (hz : xs.length < sizeLine)
    (hb : ∀ x, x ∈ xs → ∃ A1, U (wipeA A (own.map (·.2))) (enc x) A1 ∧ EtB X scope A1 ifs (pr x) ∧ (pr x = true → EvB X scope A1 elt (f x)))
    (hs : ∀ x, foldedSetIterable iter X.env x = pure x := by intro _; rfl)
    {i : Nat} {y : Str} {py spos : Pos} (h1 : X.N[i]? = some y) (h2 : X.env.scope.names.lookup y = some .local) (h3 : swapsWith (.ListComp elt [⟨tg, iter, ifs, 0⟩] scope pos) (some (.Name y py)) spos.line X.env = pure true) (hj : A[i]?.isSome = true) :
    S1 X A (.Assign [.Name y py] (.ListComp elt [⟨tg, iter, ifs, 0⟩] scope pos) spos) (.nx (A.set i (.own (.lst ((xs.filter pr).map f))))) := fun I0 H0 σ I H rl D q => by
  obtain ⟨t, _, hp, h⟩ := lc_both (pos := pos) (elt := elt) xs enc pr f hc hN hi hsrc ok hg ht hw hl hz hb hs
  exact ws_of (hp i y py spos h1 h2 h3) (h I0 H0 σ I H rl _ fun v I1 H1 g hv => q _ I1 H1 g.ii (rel_put rl g hv (lt_of_some hj)))
end
end LR

set_option Elab.async false
set_option linter.all false
set_option maxRecDepth 100000
set_option maxHeartbeats 4000000
/-! The layer LR, part e: raise, the rule of a def. -/
namespace LR
open PySem PySem.Spec PyProof.Rows L2

/-- an exception class of the text, right under others of it or ValueError -/
structure XC (K : PySem.W.Frag) (mg : Str → Option Value) (x : Str) : Prop where
  ex : ∃ c, mg x = some (.ref c) ∧ PySem.W.excIn K c [.type "ValueError", .type "Exception", .type "BaseException", .type "object"] "ValueError.__new__" = true ∧ PySem.W.keepIn K (.ref c) = true ∧
    PySem.W.subIn K (.ref c) (.type "BaseException") = some true ∧ PySem.W.typeIn K (.ref c) = some (.type "type")
section
variable {X : Cx} {A : List C} {pos p p2 : Pos} {x m : Str}
theorem s1_raise {j} (hc : X.calm = true) (F : XC X.K X.mg x) (hg : Gl X x) (hs : X.stack = X.env :: X.outer) (hf : X.env.frame = some X.env.locals) (hdb : (x == ("__debug__" : Str)) = false := by decide) :
    S1 X A (.Raise (some (.Call (.Name x p) [.Constant (.str m) j p2] [] pos)) none pos') (.ex x A) := fun I0 H0 σ I H rl D f => by
  obtain ⟨W, tk, f⟩ := f
  obtain ⟨c, gC, q, kC, b, t⟩ := F.ex
  exact ws_of (ps_raise hc tk (pmk_own PySem.F.excBase_ValueError q gC kC (raises_own b t) hg hdb)) (f σ I H (Same.refl _) rl c gC)
end
/-- the state of the names at a def's begin -/
def A0 (N : List Str) (ds : List PyData) : List C := ds.map .dat ++ List.replicate (N.length - ds.length) .un
def SmR (X : Cx) (A : List C) (st : List Stmt) : Res → Prop
  | .ok c => Sm X A st (.rt c)
  | .ex x => ∃ A', Sm X A st (.ex x A')
section
variable {P : Program} {w : World} {K : PySem.W.Frag} {mg : Str → Option Value} {base : Heap}
theorem rel_start {N : List Str} {vs : List V} {ds : List PyData} {I H : Hp} (s : Same I H) (h : DpAll K I vs ds) : Rel K I H (A0 N ds) (start N vs) I H where
  gr := .refl s
  len := by unfold A0 L2.start; rw [List.length_append, List.length_append, List.length_map, List.length_map, List.length_replicate, List.length_replicate, dpAll_len h]
  cell := fun i c hc => by
    unfold A0 at hc
    by_cases hi : i < ds.length
    · rw [List.getElem?_append_left (by simpa using hi), List.getElem?_map, List.getElem?_eq_getElem hi] at hc
      cases hc
      obtain ⟨v, h1, h2⟩ := dpAll_get h (List.getElem?_eq_getElem hi)
      refine ⟨v, ?_, h2⟩
      unfold L2.start
      rw [List.getElem?_append_left (by rw [List.length_map, dpAll_len h]; exact hi), List.getElem?_map, h1]
      rfl
    · rw [List.getElem?_append_right (by simpa using hi), List.getElem?_replicate] at hc
      split at hc
      · cases hc; trivial
      · cases hc
  apart := fun i j p _ o _ _ => by
    unfold A0 at o
    by_cases hi : i < ds.length
    · rw [List.getElem?_append_left (by simpa using hi), List.getElem?_map, List.getElem?_eq_getElem hi] at o
      exact o.elim
    · rw [List.getElem?_append_right (by simpa using hi), List.getElem?_replicate] at o
      split at o
      · exact o.elim
      · exact o.elim
theorem fn_ok {x qual : Str} {st : Stmt} {f : Addr} {fd : FuncData} {N ps : List Str} {k : Nat} {R : List PyData → Res → Prop} (F : Fun K x qual st f fd) (hm : mg x = some (.ref f)) (b : Binds K fd ps []) (S : FnScope N ps (defScope st)) (hR : ∀ ds r, R ds r → ds.length = ps.length)
    (hbody : ∀ (cdv : Value) (A : Around) (outer : List Env) (s : Shared) (H : Hp) (E : XK), Room k (A.deeper (envOfC qual (defScope st) s.heap.objs.size f cdv)) → ∀ ds r, R ds r →
      SmR (cxOf (L2.CX P w) P w K mg base N qual (defScope st) f cdv A outer s H E) (A0 N ds) (defBody st) r) : Fn P w K mg base (k + 1) x ps R := by
  have hlk : ∃ (oc : Value) (od : Option Addr) (osl : Array (Option Value)), K.lookup f = some ⟨oc, od, .func fd, osl⟩ := by
    obtain ⟨oc, od, _, _, _, _, _, _, osl, _, h, _⟩ := F.ex
    exact ⟨oc, od, osl, h⟩
  refine ⟨f, fd, F.okX S (fun vs H Q E ⟨I, ds, r, _, hd, hr, _⟩ => by rw [dpAll_len hd, hR ds r hr]) (fun cdv A outer s H vs Q E hr ⟨I, ds, r, si, hd, h, q⟩ => ?_), hm, F.kp, b, hlk⟩
  refine ⟨_, wss_pss, ?_⟩
  have z := hbody cdv A outer s H E hr ds r h
  cases r with
  | ok c => exact z I H (start N vs) I H (rel_start si hd) _ fun v I' H' _ g hv => q v I' H' g hv
  | ex y =>
    obtain ⟨A', z⟩ := z
    exact z I H (start N vs) I H (rel_start si hd) _ ⟨_, takes_of rfl rfl rfl rfl, fun σ' I' H' _ r c hc => q I' H' r.gr c hc⟩
end
end LR

set_option Elab.async false
set_option linter.all false
set_option maxRecDepth 100000
set_option maxHeartbeats 4000000
/-! The layer LR, part f: rules by the shape of the data, encodings. -/
namespace LR
open PySem PySem.Spec PyProof.Rows L2

abbrev tI (xs : List Int) : PyData := .tuple (xs.map .int)
abbrev tT (t : List (List Int)) : PyData := .tuple (t.map tI)
abbrev lT (t : List (List Int)) : PyData := .list (t.map tI)
/-! ### shaped data, equality -/
theorem lay_ints : ∀ xs : List Int, PyData.canLayAll0 (xs.map PyData.int) = true
  | [] => by simp [PyData.canLayAll0]
  | x :: r => by rw [List.map_cons]; simp only [PyData.canLayAll0, PyData.canLay0, Bool.true_and]; exact lay_ints r
theorem dep_ints : ∀ xs : List Int, PyData.depthAll (xs.map PyData.int) ≤ 1
  | [] => by simp [PyData.depthAll]
  | x :: r => by rw [List.map_cons]; simp only [PyData.depthAll, PyData.depth]; have := dep_ints r; omega

inductive BinD : Operator → PyData → PyData → C → Prop
  | add {i j : Int} : BinD .Add (.int i) (.int j) (.dat (.int (i + j)))
  | sub {i j : Int} : BinD .Sub (.int i) (.int j) (.dat (.int (i - j)))
  | mul {i j : Int} (h : CMul i j) : BinD .Mult (.int i) (.int j) (.dat (.int (i * j)))
  | mod {i j : Int} (h : 0 < j) : BinD .Mod (.int i) (.int j) (.dat (.int (i % j)))
  | div {i j : Int} (h : 0 < j) (h2 : j < 1073741824) : BinD .FloorDiv (.int i) (.int j) (.dat (.int (i / j)))
  | pow {i j : Int} (h : CPow i j) : BinD .Pow (.int i) (.int j) (.dat (.int (i ^ j.toNat)))
  | cat {ds es : List PyData} (h : ds.length + es.length ≤ sizeLine) : BinD .Add (.tuple ds) (.tuple es) (.dat (.tuple (ds ++ es)))
  | catI {xs ys : List Int} (h : xs.length + ys.length ≤ sizeLine) : BinD .Add (tI xs) (tI ys) (.dat (tI (xs ++ ys)))
  | catI1 {xs : List Int} {i : Int} (h : xs.length + 1 ≤ sizeLine) : BinD .Add (tI xs) (.tuple [.int i]) (.dat (tI (xs ++ [i])))
  | cat1I {xs : List Int} {i : Int} (h : xs.length + 1 ≤ sizeLine) : BinD .Add (.tuple [.int i]) (tI xs) (.dat (tI (i :: xs)))
  | catT {xs ys : List (List Int)} (h : xs.length + ys.length ≤ sizeLine) : BinD .Add (tT xs) (tT ys) (.dat (tT (xs ++ ys)))
  | catT1 {xs : List (List Int)} {i : List Int} (h : xs.length + 1 ≤ sizeLine) : BinD .Add (tT xs) (.tuple [tI i]) (.dat (tT (xs ++ [i])))
  | str {x y : Str} (h : x.length + y.length ≤ sizeLine) : BinD .Add (.str x) (.str y) (.dat (.str (x ++ y)))
inductive CmpD : CmpOp → PyData → PyData → Bool → Prop
  | lt {i j : Int} : CmpD .Lt (.int i) (.int j) (decide (i < j))
  | le {i j : Int} : CmpD .LtE (.int i) (.int j) (decide (i ≤ j))
  | gt {i j : Int} : CmpD .Gt (.int i) (.int j) (decide (j < i))
  | ge {i j : Int} : CmpD .GtE (.int i) (.int j) (decide (j ≤ i))
  | eqI {i j : Int} : CmpD .Eq (.int i) (.int j) (decide (i = j))
  | neI {i j : Int} : CmpD .NotEq (.int i) (.int j) (!decide (i = j))
  | eqS {i j : Str} : CmpD .Eq (.str i) (.str j) (decide (i = j))
  | neS {i j : Str} : CmpD .NotEq (.str i) (.str j) (!decide (i = j))
inductive SeqD : PyData → Bool → List PyData → Prop
  | tup {ds : List PyData} : SeqD (.tuple ds) false ds
  | lst {ds : List PyData} : SeqD (.list ds) true ds
inductive IxD : List PyData → Int → PyData → Prop
  | nIn {xs : List Int} {i : Nat} (h2 : i < xs.length) : IxD (xs.map .int) (i : Int) (.int (xs.getD i 0))
  | nTn {xs : List (List Int)} {i : Nat} (h2 : i < xs.length) : IxD (xs.map tI) (i : Int) (tI (xs.getD i []))
  | nTTn {xs : List (List (List Int))} {i : Nat} (h2 : i < xs.length) : IxD (xs.map tT) (i : Int) (tT (xs.getD i []))
  | nTT {xs : List (List (List Int))} {i : Int} (h : 0 ≤ i) (h2 : i < xs.length) : IxD (xs.map tT) i (tT (xs.getD i.toNat []))
  | nI {xs : List Int} {i : Int} (h : 0 ≤ i) (h2 : i < xs.length) : IxD (xs.map .int) i (.int (xs.getD i.toNat 0))
  | nS {xs : List Str} {i : Int} (h : 0 ≤ i) (h2 : i < xs.length) : IxD (xs.map .str) i (.str (xs.getD i.toNat ⟨#[]⟩))
  | nT {xs : List (List Int)} {i : Int} (h : 0 ≤ i) (h2 : i < xs.length) : IxD (xs.map tI) i (tI (xs.getD i.toNat []))
  | nL2 {a b i : Int} (h : 0 ≤ i) (h2 : i < 2) : IxD [.int a, .int b] i (.int ([a, b].getD i.toNat 0))
  | nL3 {a b c i : Int} (h : 0 ≤ i) (h2 : i < 3) : IxD [.int a, .int b, .int c] i (.int ([a, b, c].getD i.toNat 0))
  | nL4 {a b c d i : Int} (h : 0 ≤ i) (h2 : i < 4) : IxD [.int a, .int b, .int c, .int d] i (.int ([a, b, c, d].getD i.toNat 0))
  | lit {ds : List PyData} {i : Int} {d : PyData} (h : atI ds i = some d) : IxD ds i d
section
variable {X : Cx} {e a b : Expr} {es : List Expr} {A : List C} {pos p p2 : Pos} {x : Str}
theorem ev_bin {op : Operator} {d1 d2 : PyData} {c : C} (h1 : Ev X A a (.dat d1)) (h2 : Ev X A b (.dat d2)) (h : BinD op d1 d2 c) : Ev X A (.BinOp a op b pos) c := by
  cases h with
  | add => exact ev_add h1 h2
  | sub => exact ev_sub h1 h2
  | mul h => exact ev_mul h1 h2 h
  | mod h => exact ev_mod h1 h2 h
  | div h h' => exact ev_div h1 h2 h h'
  | pow h => exact ev_pow h1 h2 h
  | cat h => exact ev_catT h1 h2 h
  | catI h => exact ev_eq (ev_catT h1 h2 (by simpa using h)) (by simp)
  | catI1 h => exact ev_eq (ev_catT h1 h2 (by simpa using h)) (by simp)
  | cat1I h => exact ev_eq (ev_catT h1 h2 (by simp; omega)) (by simp)
  | catT h => exact ev_eq (ev_catT h1 h2 (by simpa using h)) (by simp)
  | catT1 h => exact ev_eq (ev_catT h1 h2 (by simpa using h)) (by simp)
  | str h => exact ev_op op_add_str h1 h2 (bin_val fun I H v w s h1 h2 Q q => ⟨_, _, dp_str h1, dp_str h2, h, q _ (.str _)⟩)
theorem ev_cmpD {op : CmpOp} {d1 d2 : PyData} {v : Bool} (h1 : Ev X A a (.dat d1)) (h2 : Ev X A b (.dat d2)) (h : CmpD op d1 d2 v) : Ev X A (.Compare a [op] [b] pos) (.dat (.bool v)) := by
  cases h with
  | lt => exact ev_lt h1 h2
  | le => exact ev_le h1 h2
  | gt => exact ev_gt h1 h2
  | ge => exact ev_ge h1 h2
  | eqI => exact ev_eqI h1 h2
  | neI => exact ev_neI h1 h2
  | eqS => exact ev_eqS h1 h2
  | neS => exact ev_neS h1 h2
/-- a comparison by data -/
def CmpR (X : Cx) (op : CmpOp) (b : Expr) (d1 d2 : PyData) (v : Bool) : Prop := ∃ r : R2, OpR X (compareOp op) r ∧ Bin X r d1 d2 (.dat (.bool v)) ∧ behindInMarks op b = false
theorem cmpR_D {op : CmpOp} {d1 d2 : PyData} {v : Bool} (h : CmpD op d1 d2 v) : CmpR X op b d1 d2 v := by
  cases h with
  | lt => exact ⟨_, op_lt, bI0 fun _ => .bl _, nomark _⟩
  | le => exact ⟨_, op_le, bI0 fun _ => .bl _, nomark _⟩
  | gt => exact ⟨_, op_gt, bI0 fun _ => .bl _, nomark _⟩
  | ge => exact ⟨_, op_ge, bI0 fun _ => .bl _, nomark _⟩
  | eqI => exact ⟨_, op_eq, bin_val fun I H v w s h1 h2 Q q => by rw [dp_int h1, dp_int h2]; exact ⟨rfl, by rw [decV]; exact q _ (.bl _)⟩, nomark _⟩
  | neI => exact ⟨_, op_ne, bin_val fun I H v w s h1 h2 Q q => by rw [dp_int h1, dp_int h2]; exact ⟨rfl, by rw [decV]; exact q _ (.bl _)⟩, nomark _⟩
  | eqS => exact ⟨_, op_eq, bin_val fun I H v w s h1 h2 Q q => by rw [dp_str h1, dp_str h2]; exact ⟨rfl, by rw [decS]; exact q _ (.bl _)⟩, nomark _⟩
  | neS => exact ⟨_, op_ne, bin_val fun I H v w s h1 h2 Q q => by rw [dp_str h1, dp_str h2]; exact ⟨rfl, by rw [decS]; exact q _ (.bl _)⟩, nomark _⟩
theorem cmpR_eqD {d1 d2 : PyData} {k : Nat} (hr : Room k X.A) (s1 : SeqAt.shaped d1 = true) (s2 : SeqAt.shaped d2 = true) : CmpR X .Eq b d1 d2 (PyData.eqv d1 d2) :=
  ⟨_, op_eqD hr.units, bin_val fun I H v w s h1 h2 Q q => ⟨d1, d2, (dp_mono s h1).kit s1, (dp_mono s h2).kit s2, s1, s2, q _ (.bl _)⟩, nomark _⟩
theorem cmpR_neD {d1 d2 : PyData} {k : Nat} (hr : Room k X.A) (s1 : SeqAt.shaped d1 = true) (s2 : SeqAt.shaped d2 = true) : CmpR X .NotEq b d1 d2 (!PyData.eqv d1 d2) :=
  ⟨_, op_neD hr.units, bin_val fun I H v w s h1 h2 Q q => ⟨d1, d2, (dp_mono s h1).kit s1, (dp_mono s h2).kit s2, s1, s2, q _ (.bl _)⟩, nomark _⟩
theorem CmpR.eq {op : CmpOp} {d1 d2 : PyData} {v u : Bool} (h : CmpR X op b d1 d2 v) (e : v = u) : CmpR X op b d1 d2 u := e ▸ h
theorem ev_cmpR {op : CmpOp} {d1 d2 : PyData} {v : Bool} (h1 : Ev X A a (.dat d1)) (h2 : Ev X A b (.dat d2)) (h : CmpR X op b d1 d2 v) : Ev X A (.Compare a [op] [b] pos) (.dat (.bool v)) := by
  obtain ⟨r, ho, hb, hm⟩ := h
  exact ev_cmp ho h1 h2 hb hm
theorem et_cmpR {op : CmpOp} {d1 d2 : PyData} {v : Bool} (h1 : Ev X A a (.dat d1)) (h2 : Ev X A b (.dat d2)) (h : CmpR X op b d1 d2 v) : Et X A (.Compare a [op] [b] pos) v := by
  obtain ⟨r, ho, hb, hm⟩ := h
  exact fun I0 H0 σ I H rl Q q => wt_of (pt_cmpR ho wx_pe wx_pe hm) (bin_run h1 h2 hb rl fun u I1 H1 g hu => ⟨v, dp_bool hu, q I1 H1 g⟩)
theorem evs_dat {d : PyData} {k : Bool} {ds : List PyData} (h : Ev X A e (.dat d)) (hs : SeqD d k ds) : EvS X A e k ds := by
  cases hs with
  | tup => exact evs_tup h
  | lst => exact evs_lst h
theorem ev_atD {k : Bool} {ds : List PyData} {i : Int} {d : PyData} (h1 : EvS X A a k ds) (h2 : Ev X A b (.dat (.int i))) (h : IxD ds i d) (hs : PlainIx b) : Ev X A (.Subscript a b pos) (.dat d) := by
  refine ev_at h1 h2 ?_ hs
  have key : ∀ {α : Type} (f : α → PyData) (xs : List α) (z : α), 0 ≤ i → i < xs.length → atI (xs.map f) i = some (f (xs.getD i.toNat z)) := fun f xs z h0 h1 => by
    have e1 : ((i.toNat : Nat) : Int) = i := Int.toNat_of_nonneg h0
    have h2 : i.toNat < xs.length := by omega
    rw [← e1]
    refine atI_nat ?_
    rw [List.getElem?_map, e1, List.getElem?_eq_getElem h2, List.getD_eq_getElem?_getD, List.getElem?_eq_getElem h2]
    rfl
  cases h with
  | nIn h1 => exact key .int _ 0 (by omega) (by omega)
  | nTn h1 => exact key tI _ [] (by omega) (by omega)
  | nTTn h1 => exact key tT _ [] (by omega) (by omega)
  | nTT h0 h1 => exact key tT _ [] h0 h1
  | nI h0 h1 => exact key .int _ 0 h0 h1
  | nS h0 h1 => exact key .str _ _ h0 h1
  | nT h0 h1 => exact key tI _ [] h0 h1
  | nL2 h0 h1 => exact key .int [_, _] 0 h0 h1
  | nL3 h0 h1 => exact key .int [_, _, _] 0 h0 h1
  | nL4 h0 h1 => exact key .int [_, _, _, _] 0 h0 h1
  | lit h => exact h
theorem s1_retE {c c' : C} (he : Ev X A e c) (h : c = c') : S1 X A (.Return (some e) pos) (.rt c') := h ▸ s1_ret he
theorem ei_dat {tg : Expr} {d : PyData} {k : Bool} {ds : List PyData} (h : Ev X A e (.dat d)) (hs : SeqD d k ds) : EvI X A tg e ds := by
  cases hs with
  | tup => exact ei_tup h
  | lst => exact ei_list h
/-- not a < b < c -/
theorem ev_ifExp {v : Bool} {c : Expr} {o : C} (h : Et X A c v) (h1 : v = true → Ev X A a o) (h2 : v = false → Ev X A b o) : Ev X A (.IfExp c a b pos) o := fun I0 H0 σ I H rl Q q =>
  wx_of (pe_ifExp wt_pe wx_pe wx_pe) (h I0 H0 σ I H rl _ fun I1 H1 g => by
    cases v with
    | true => exact iteT (h1 rfl I0 H0 σ I1 H1 (rl.grow g) Q fun y I2 H2 g2 hy => q y I2 H2 (g.trans g2) (hy.back g.hh))
    | false => exact iteF (h2 rfl I0 H0 σ I1 H1 (rl.grow g) Q fun y I2 H2 g2 hy => q y I2 H2 (g.trans g2) (hy.back g.hh)))
/-- a < b < c and the like -/
theorem ev_chain {o1 o2 : CmpOp} {i j k : Int} {v u : Bool} {r1 r2 : R2} {c : Expr} (h1 : Ev X A a (.dat (.int i))) (h2 : Ev X A b (.dat (.int j))) (h3 : Ev X A c (.dat (.int k))) (d1 : OpR X (compareOp o1) r1) (d2 : OpR X (compareOp o2) r2)
    (b1 : Bin X r1 (.int i) (.int j) (.dat (.bool v))) (b2 : Bin X r2 (.int j) (.int k) (.dat (.bool u))) (hm : lastMarks [o1, o2] [b, c] = false) : Ev X A (.Compare a [o1, o2] [b, c] pos) (.dat (.bool (v && u))) := fun I0 H0 σ I H rl Q q => by
  refine wx_of (pe_chain d1 d2 wx_pe wx_pe wx_pe hm) ?_
  refine h1 I0 H0 σ I H rl _ fun x1 I1 H1 g1 hx => h2 I0 H0 σ I1 H1 (rl.grow g1) _ fun x2 I2 H2 g2 hy => b1 I2 H2 x1 x2 g2.ih (dp_mono g2.ii hx) hy _ fun z I3 H3 g3 hz => ?_
  refine ⟨v, dp_bool hz, ?_⟩
  have g := (g1.trans g2).trans g3
  cases v with
  | true => exact iteT (h3 I0 H0 σ I3 H3 (rl.grow g) _ fun x3 I4 H4 g4 hw => b2 I4 H4 x2 x3 g4.ih (dp_mono (g3.trans g4).ii hy) hw _ fun y I5 H5 g5 hy' => q y I5 H5 ((g.trans g4).trans g5) hy')
  | false => exact iteF (q _ I3 H3 g (Dp.bl false))
theorem et_chain {o1 o2 : CmpOp} {i j k : Int} {v u : Bool} {c : Expr} (h1 : Ev X A a (.dat (.int i))) (h2 : Ev X A b (.dat (.int j))) (h3 : Ev X A c (.dat (.int k))) (d1 : CmpR X o1 b (.int i) (.int j) v) (d2 : CmpR X o2 c (.int j) (.int k) u) (hm : lastMarks [o1, o2] [b, c] = false := by with_unfolding_all rfl) :
    Et X A (.Compare a [o1, o2] [b, c] pos) (v && u) := fun I0 H0 σ I H rl Q q => by
  obtain ⟨r1, p1, b1, _⟩ := d1
  obtain ⟨r2, p2, b2, _⟩ := d2
  refine wt_of (pt_chain p1 p2 wx_pe wx_pe wx_pe hm) ?_
  refine h1 I0 H0 σ I H rl _ fun x1 I1 H1 g1 hx => h2 I0 H0 σ I1 H1 (rl.grow g1) _ fun x2 I2 H2 g2 hy => b1 I2 H2 x1 x2 g2.ih (dp_mono g2.ii hx) hy _ fun z I3 H3 g3 hz => ?_
  refine ⟨v, dp_bool hz, ?_⟩
  have g := (g1.trans g2).trans g3
  cases v with
  | true => exact iteT (h3 I0 H0 σ I3 H3 (rl.grow g) _ fun x3 I4 H4 g4 hw => b2 I4 H4 x2 x3 g4.ih (dp_mono (g3.trans g4).ii hy) hw _ fun y I5 H5 g5 hy' => ⟨u, dp_bool hy', q I5 H5 ((g.trans g4).trans g5)⟩)
  | false => exact iteF ⟨false, rfl, q I3 H3 g⟩
theorem ev_chainR {o1 o2 : CmpOp} {i j k : Int} {v u : Bool} {c : Expr} (h1 : Ev X A a (.dat (.int i))) (h2 : Ev X A b (.dat (.int j))) (h3 : Ev X A c (.dat (.int k))) (d1 : CmpR X o1 b (.int i) (.int j) v) (d2 : CmpR X o2 c (.int j) (.int k) u) (hm : lastMarks [o1, o2] [b, c] = false := by with_unfolding_all rfl) :
    Ev X A (.Compare a [o1, o2] [b, c] pos) (.dat (.bool (v && u))) := by
  obtain ⟨r1, p1, b1, _⟩ := d1
  obtain ⟨r2, p2, b2, _⟩ := d2
  exact ev_chain h1 h2 h3 p1 p2 b1 b2 hm
end
end LR

set_option Elab.async false
set_option linter.all false
set_option maxRecDepth 100000
set_option maxHeartbeats 4000000
/-! The layer LR, part g: the rules over a context of which the names and the scope are told. -/
namespace LR
open PySem PySem.Spec PyProof.Rows L2

/-- what is told of a context -/
structure XF (P : Program) (w : World) (K : PySem.W.Frag) (mg : Str → Option Value) (base : Heap) (N : List Str) (sc : Scope) (k : Nat) (X : Cx) : Prop where
  eP : X.prog = P
  eW : X.w = w
  eK : X.K = K
  eM : X.mg = mg
  eB : X.base = base
  eN : X.N = N
  eS : X.env.scope = sc
  calm : X.calm = true
  nd : N.Nodup
  room : Room k X.A
  pass : PassesOwn (model X.prog X.w) X.A X.env X.xe
/-- .. of a def's own -/
structure XT (X : Cx) : Prop where
  stack : X.stack = X.env :: X.outer
  frame : X.env.frame = some X.env.locals
  fn : ∀ x, X.fn x = true
abbrev GlS (sc : Scope) (x : Str) : Prop := sc.names.lookup x = some .globalImplicit
instance {sc : Scope} {x : Str} : Decidable (Vis sc x) := by unfold Vis; infer_instance
instance {sc : Scope} {x : Str} : Decidable (L2.Loc sc x) := by unfold L2.Loc; infer_instance
section
variable {P : Program} {w : World} {K : PySem.W.Frag} {mg : Str → Option Value} {base : Heap} {N : List Str} {sc : Scope} {k : Nat}
variable {X : Cx} {e a b : Expr} {es : List Expr} {A : List C} {pos p p2 : Pos} {x : Str}
variable (hX : XF P w K mg base N sc k X)
include hX
theorem XF.gl (h : GlS sc x) : Gl X x := by unfold Gl Env.kindOf; rw [hX.eS]; exact h
theorem XF.vis (h : Vis sc x) : Vis X.env.scope x := by rw [hX.eS]; exact h
theorem XF.loc (h : L2.Loc sc x) : L2.Loc X.env.scope x := by rw [hX.eS]; exact h
theorem XF.ndX : X.N.Nodup := by rw [hX.eN]; exact hX.nd
theorem XF.fnX {j : Nat} {y : Str} {ps : List Str} {R : List PyData → Res → Prop} (G : Fn P w K mg base j y ps R) : Fn X.prog X.w X.K X.mg X.base j y ps R := by
  rw [hX.eP, hX.eW, hX.eK, hX.eM, hX.eB]; exact G
theorem nmF (i : Nat) {d : PyData} (hN : N[i]? = some x) (hA : A[i]? = some (.dat d)) (hv : Vis sc x) (hd : (x == ("__debug__" : Str)) = false) (hcd : (x == ("__classdict__" : Str)) = false) : Ev X A (.Name x pos) (.dat d) :=
  ev_name i (by rw [hX.eN]; exact hN) hA (hX.vis hv) hd hcd
theorem ownF (i : Nat) {ds : List PyData} (hN : N[i]? = some x) (hA : A[i]? = some (.own (.lst ds))) (hv : Vis sc x) (hd : (x == ("__debug__" : Str)) = false) (hcd : (x == ("__classdict__" : Str)) = false) : EvS X A (.Name x pos) true ds :=
  evs_own i (by rw [hX.eN]; exact hN) hA (hX.vis hv) hd hcd
theorem ownlF (i : Nat) {ds : List PyData} (hN : N[i]? = some x) (hA : A[i]? = some (.own (.lst ds))) (hv : Vis sc x) (hd : (x == ("__debug__" : Str)) = false) (hcd : (x == ("__classdict__" : Str)) = false) : EvL X A (.Name x pos) ds :=
  evl_own i (by rw [hX.eN]; exact hN) hA (hX.vis hv) hd hcd
theorem callF {j : Nat} {ps : List Str} {R : List PyData → Res → Prop} {ds : List PyData} {c : C} (G : Fn P w K mg base j x ps R) (hj : j ≤ k) (hg : GlS sc x) (ha : EvA X A (e :: es) ds) (h : R ds (.ok c)) (hdb : (x == ("__debug__" : Str)) = false)
    (he : starEach (e :: es) X.env = (false, eval e X.env) :: starEach es X.env := by rfl) (hpl : (backTo pos (starEach es X.env)).any (·.1) = false := by rfl) : Ev X A (.Call (.Name x p) (e :: es) [] pos) c :=
  ev_call (hX.fnX G) (hX.room.mono hj) (hX.gl hg) ha h hdb he hpl
theorem callXF {j : Nat} {ps : List Str} {R : List PyData → Res → Prop} {ds : List PyData} {y : Str} (G : Fn P w K mg base j x ps R) (hj : j ≤ k) (hg : GlS sc x) (ha : EvA X A (e :: es) ds) (h : R ds (.ex y)) (hdb : (x == ("__debug__" : Str)) = false)
    (he : starEach (e :: es) X.env = (false, eval e X.env) :: starEach es X.env := by rfl) (hpl : (backTo pos (starEach es X.env)).any (·.1) = false := by rfl) : EvX X A (.Call (.Name x p) (e :: es) [] pos) y :=
  evx_call (hX.fnX G) (hX.room.mono hj) (hX.gl hg) ha h hdb he hpl
theorem lenF {v : Bool} {ds : List PyData} (hg : GlS sc "len") (hm : mg "len" = none) (h : EvS X A e v ds) (hs : starEach (e :: []) X.env = (false, eval e X.env) :: starEach [] X.env := by rfl) : Ev X A (.Call (.Name "len" p) [e] [] pos) (.dat (.int ds.length)) :=
  ev_len (hX.gl hg) (by rw [hX.eM]; exact hm) h hs
theorem tupleF {ds : List PyData} (hg : GlS sc "tuple") (hm : mg "tuple" = none) (h : EvS X A e true ds) (hs : starEach (e :: []) X.env = (false, eval e X.env) :: starEach [] X.env := by rfl) : Ev X A (.Call (.Name "tuple" p) [e] [] pos) (.dat (.tuple ds)) :=
  ev_tuple (hX.gl hg) (by rw [hX.eM]; exact hm) h (hs := hs)
theorem tupleTF {ds : List PyData} (hg : GlS sc "tuple") (hm : mg "tuple" = none) (h : Ev X A e (.dat (.tuple ds))) (hs : starEach (e :: []) X.env = (false, eval e X.env) :: starEach [] X.env := by rfl) : Ev X A (.Call (.Name "tuple" p) [e] [] pos) (.dat (.tuple ds)) :=
  ev_tupleT (hX.gl hg) (by rw [hX.eM]; exact hm) h (hs := hs)
theorem listF {v : Bool} {ds : List PyData} (hg : GlS sc "list") (hm : mg "list" = none) (h : EvS X A e v ds) (hs : starEach (e :: []) X.env = (false, eval e X.env) :: starEach [] X.env := by rfl) : Ev X A (.Call (.Name "list" p) [e] [] pos) (.own (.lst ds)) :=
  ev_list (hX.gl hg) (by rw [hX.eM]; exact hm) h (hs := hs)
theorem intBF {v : Bool} (hg : GlS sc "int") (hm : mg "int" = none) (h : Ev X A e (.dat (.bool v))) (hs : starEach (e :: []) X.env = (false, eval e X.env) :: starEach [] X.env := by rfl) : Ev X A (.Call (.Name "int" p) [e] [] pos) (.dat (.int (if v then 1 else 0))) :=
  ev_intB (hX.gl hg) (by rw [hX.eM]; exact hm) h (hs := hs)
theorem max2F {i j : Int} (hg : GlS sc "max") (hm : mg "max" = none) (h : EvA X A [e, b] [.int i, .int j]) (hs : starEach (e :: [b]) X.env = (false, eval e X.env) :: starEach [b] X.env := by rfl) (hpl : (backTo pos (starEach [b] X.env)).any (·.1) = false := by rfl) :
    Ev X A (.Call (.Name "max" p) [e, b] [] pos) (.dat (.int (max i j))) := ev_max2 hX.calm (hX.gl hg) (by rw [hX.eM]; exact hm) h (hs := hs) (hpl := hpl)
theorem min2F {i j : Int} (hg : GlS sc "min") (hm : mg "min" = none) (h : EvA X A [e, b] [.int i, .int j]) (hs : starEach (e :: [b]) X.env = (false, eval e X.env) :: starEach [b] X.env := by rfl) (hpl : (backTo pos (starEach [b] X.env)).any (·.1) = false := by rfl) :
    Ev X A (.Call (.Name "min" p) [e, b] [] pos) (.dat (.int (min i j))) := ev_min2 hX.calm (hX.gl hg) (by rw [hX.eM]; exact hm) h (hs := hs) (hpl := hpl)
theorem sumF {ns : List Int} (hg : GlS sc "sum") (hm : mg "sum" = none) (h : EvS X A e true (ns.map PyData.int)) (hs : starEach (e :: []) X.env = (false, eval e X.env) :: starEach [] X.env := by rfl) : Ev X A (.Call (.Name "sum" p) [e] [] pos) (.dat (.int ns.sum)) :=
  ev_sum hX.calm (hX.gl hg) (by rw [hX.eM]; exact hm) h (hs := hs)
theorem anyF {bs : List Bool} (hg : GlS sc "any") (hm : mg "any" = none) (h : EvS X A e true (bs.map PyData.bool)) (hs : starEach (e :: []) X.env = (false, eval e X.env) :: starEach [] X.env := by rfl) : Ev X A (.Call (.Name "any" p) [e] [] pos) (.dat (.bool (bs.any id))) :=
  ev_any hX.calm (hX.gl hg) (by rw [hX.eM]; exact hm) h (hs := hs)
theorem allF {bs : List Bool} (hg : GlS sc "all") (hm : mg "all" = none) (h : EvS X A e true (bs.map PyData.bool)) (hs : starEach (e :: []) X.env = (false, eval e X.env) :: starEach [] X.env := by rfl) : Ev X A (.Call (.Name "all" p) [e] [] pos) (.dat (.bool (bs.all id))) :=
  ev_all hX.calm (hX.gl hg) (by rw [hX.eM]; exact hm) h (hs := hs)
theorem maxLF {ns : List Int} {m : Int} (hg : GlS sc "max") (hm : mg "max" = none) (h : EvS X A e true (ns.map PyData.int)) (h1 : m ∈ ns) (h2 : ∀ y ∈ ns, y ≤ m) (hs : starEach (e :: []) X.env = (false, eval e X.env) :: starEach [] X.env := by rfl) :
    Ev X A (.Call (.Name "max" p) [e] [] pos) (.dat (.int m)) := ev_maxL hX.calm (hX.gl hg) (by rw [hX.eM]; exact hm) h h1 h2 (hs := hs)
theorem minLF {ns : List Int} {m : Int} (hg : GlS sc "min") (hm : mg "min" = none) (h : EvS X A e true (ns.map PyData.int)) (h1 : m ∈ ns) (h2 : ∀ y ∈ ns, m ≤ y) (hs : starEach (e :: []) X.env = (false, eval e X.env) :: starEach [] X.env := by rfl) :
    Ev X A (.Call (.Name "min" p) [e] [] pos) (.dat (.int m)) := ev_minL hX.calm (hX.gl hg) (by rw [hX.eM]; exact hm) h h1 h2 (hs := hs)
theorem strIF {i : Int} (hg : GlS sc "str") (hm : mg "str" = none) (h : Ev X A e (.dat (.int i))) (hz : i.natAbs.log2 < 1920) (hs : starEach (e :: []) X.env = (false, eval e X.env) :: starEach [] X.env := by rfl) : Ev X A (.Call (.Name "str" p) [e] [] pos) (.dat (.str (toString i))) :=
  ev_strI (hX.gl hg) (by rw [hX.eM]; exact hm) h hz (hs := hs)
theorem isiF {T : String} {d : PyData} {r : Bool} (hg : GlS sc "isinstance") (hm : mg "isinstance" = none) (h1 : Ev X A e (.dat d)) (hgT : GlS sc (Str.ofString T)) (hmT : mg (Str.ofString T) = none) (hbT : bootBuiltins (Str.ofString T) = some (.type T)) (hk : kitB (tyD d) T = some r)
    (hn : Str.ofString T ≠ "__name__") (hdb : (Str.ofString T == ("__debug__" : Str)) = false) (hs : starEach (e :: [.Name (Str.ofString T) p2]) X.env = (false, eval e X.env) :: starEach [.Name (Str.ofString T) p2] X.env := by rfl) :
    Ev X A (.Call (.Name "isinstance" p) [e, .Name (Str.ofString T) p2] [] pos) (.dat (.bool r)) :=
  ev_isi (hX.gl hg) (by rw [hX.eM]; exact hm) h1 rfl (hX.gl hgT) (by rw [hX.eM]; exact hmT) hbT hk hn (hs := hs) (hdb := hdb)
theorem rangeF {tg : Expr} {n : Int} (hg : GlS sc "range") (hm : mg "range" = none) (h : Ev X A a (.dat (.int n))) (h1 : -1000000 ≤ n) (h2 : n ≤ 1000000) (hs : starEach (a :: []) X.env = (false, eval a X.env) :: starEach [] X.env := by rfl) :
    EvI X A tg (.Call (.Name "range" p) [a] [] pos) ((List.range n.toNat).map fun i : Nat => .int (i : Int)) := ei_range (hX.gl hg) (by rw [hX.eM]; exact hm) h h1 h2 hs
theorem range2F {tg : Expr} {lo hi : Int} (hg : GlS sc "range") (hm : mg "range" = none) (h : EvA X A [a, b] [.int lo, .int hi]) (h1 : -1000000 ≤ lo) (h2 : lo ≤ 1000000) (h3 : -1000000 ≤ hi) (h4 : hi ≤ 1000000)
    (hs : starEach [a, b] X.env = [(false, eval a X.env), (false, eval b X.env)] := by rfl) (hs2 : starEach [b] X.env = [(false, eval b X.env)] := by rfl) :
    EvI X A tg (.Call (.Name "range" p) [a, b] [] pos) ((List.range (hi - lo).toNat).map fun i : Nat => .int (lo + i)) := ei_range2 (hX.gl hg) (by rw [hX.eM]; exact hm) h h1 h2 h3 h4 hs hs2
theorem eqF {d1 d2 : PyData} (h1 : Ev X A a (.dat d1)) (h2 : Ev X A b (.dat d2)) (s1 : SeqAt.shaped d1 = true) (s2 : SeqAt.shaped d2 = true) : Ev X A (.Compare a [.Eq] [b] pos) (.dat (.bool (PyData.eqv d1 d2))) := ev_eqD hX.room h1 h2 s1 s2
theorem neF {d1 d2 : PyData} (h1 : Ev X A a (.dat d1)) (h2 : Ev X A b (.dat d2)) (s1 : SeqAt.shaped d1 = true) (s2 : SeqAt.shaped d2 = true) : Ev X A (.Compare a [.NotEq] [b] pos) (.dat (.bool (!PyData.eqv d1 d2))) := ev_neD hX.room h1 h2 s1 s2
theorem setF (hT : XT X) (j : Nat) {c : C} {pos' : Pos} (hN : N[j]? = some x) (hx : L2.Loc sc x) (he : Ev X A e c) (hj : A[j]?.isSome = true) (hs : swapsWith e (some (.Name x pos')) pos.line X.env = pure false := by rfl) : S1 X A (.Assign [.Name x pos'] e pos) (.nx (A.set j c)) :=
  s1_set j hX.ndX (by rw [hX.eN]; exact hN) (hX.loc hx) he hj rfl hs (.inl (hT.fn _))
theorem appF (j : Nat) {ds : List PyData} {d : PyData} {p3 p4 : Pos} (hN : N[j]? = some x) (hA : A[j]? = some (.own (.lst ds))) (hv : Vis sc x) (he : Ev X A e (.dat d)) (hz : ds.length < sizeLine) (hd : (x == ("__debug__" : Str)) = false) (hcd : (x == ("__classdict__" : Str)) = false)
    (hs : starEach (e :: []) X.env = (false, eval e X.env) :: starEach [] X.env := by rfl) (hpl : ((backTo p3 (starEach (e :: []) X.env)).all (fun x => !x.1) && (backToKw p3 (keywordEach [] X.env)).all (fun x => x.1.isSome) && decide (([e] : List Expr).length + ([] : List Keyword).length + (if ([] : List Keyword).isEmpty then 0 else 1) < 30)) = true := by rfl) (hline : (p2.endLine == p3.line) = true := by rfl)
    (hsw : swapsWith (.Call (.Attribute (.Name x p) "append" p2) [e] [] p3) none p4.line X.env = pure false := by rfl) : S1 X A (.Expr (.Call (.Attribute (.Name x p) "append" p2) [e] [] p3) p4) (.nx (A.set j (.own (.lst (ds ++ [d]))))) :=
  s1_append j (by rw [hX.eN]; exact hN) hA (hX.vis hv) he hz rfl hd hcd hs hpl hline hsw
theorem retOF (j : Nat) {ob : Ob} (hN : N[j]? = some x) (hA : A[j]? = some (.own ob)) (hv : Vis sc x) (hd : (x == ("__debug__" : Str)) = false) (hcd : (x == ("__classdict__" : Str)) = false) : S1 X A (.Return (some (.Name x p)) pos) (.rt (.own ob)) :=
  s1_retO j (by rw [hX.eN]; exact hN) hA (hX.vis hv) hd hcd
theorem tgF (hT : XT X) (j : Nat) (hN : N[j]? = some x) (hx : L2.Loc sc x) : PG X (.Name x pos) (gName j) := pg_name hX.ndX (by rw [hX.eN]; exact hN) (hX.loc hx) (.inl (hT.fn _))
theorem tgB (j : Nat) (hN : N[j]? = some x) (hx : sc.names.lookup x = some .local) : PG X (.Name x pos) (gName j) := pg_name hX.ndX (by rw [hX.eN]; exact hN) (hX.loc (.inl hx)) (.inr (by rw [hX.eS]; exact hx))
/-- for x in ..: over a list, a tuple, all of it -/
theorem forL {α : Type} {body : List Stmt} {tg : Expr} {src : List PyData} (j : Nat) (xs : List α) (enc : α → PyData) (inv : Nat → List C) (hi : EvI X A tg e src) (hsrc : src = xs.map enc) (hg : PG X tg (gName j)) (h0 : LeA A (inv 0)) (hj : ∀ i, (inv i)[j]?.isSome = true)
    (hb : ∀ (i : Nat) (h : i < xs.length), Sm X ((inv i).set j (.dat (enc xs[i]))) body (.nx (inv (i + 1)))) (hs : ∀ x, foldedSetIterable e X.env x = pure x := by intro _; rfl) : S1 X A (.For tg e body [] pos) (.nx (inv xs.length)) := by
  subst hsrc
  refine s1_for hX.pass hX.calm hi hg tg_name inv xs.length (by simp) h0 (fun i d hi hd => ?_) (.inl ⟨by simp, rfl⟩) hs
  rw [List.getElem?_map, List.getElem?_eq_getElem hi] at hd
  cases hd
  exact ⟨_, ⟨hj i, rfl⟩, hb i hi⟩
/-- .. left at the turn n -/
theorem forLx {α : Type} {body : List Stmt} {tg : Expr} {src : List PyData} {o o' : Out} (j : Nat) (xs : List α) (enc : α → PyData) (inv : Nat → List C) (n : Nat) (hn : n < xs.length) (hi : EvI X A tg e src) (hsrc : src = xs.map enc) (hg : PG X tg (gName j)) (h0 : LeA A (inv 0)) (hj : ∀ i, (inv i)[j]?.isSome = true)
    (hb : ∀ (i : Nat) (h : i < xs.length), i < n → Sm X ((inv i).set j (.dat (enc xs[i]))) body (.nx (inv (i + 1)))) (hx : Sm X ((inv n).set j (.dat (enc xs[n]))) body o') (ho : ExitOf o' o) (hs : ∀ x, foldedSetIterable e X.env x = pure x := by intro _; rfl) : S1 X A (.For tg e body [] pos) o := by
  subst hsrc
  refine s1_for hX.pass hX.calm hi hg tg_name inv n (by simp; omega) h0 (fun i d hi hd => ?_) (.inr ⟨_, _, o', ?_, ⟨hj n, rfl⟩, hx, ho⟩) hs
  · have hi2 : i < xs.length := by omega
    rw [List.getElem?_map, List.getElem?_eq_getElem hi2] at hd
    cases hd
    exact ⟨_, ⟨hj i, rfl⟩, hb i hi2 hi⟩
  · rw [List.getElem?_map, List.getElem?_eq_getElem hn]; rfl
theorem forN {body : List Stmt} {tg : Expr} {n : Nat} {src : List PyData} (g : Nat → PyData) (j : Nat) (inv : Nat → List C) (hi : EvI X A tg e src) (hsrc : src = (List.range n).map g) (hg : PG X tg (gName j)) (h0 : LeA A (inv 0)) (hj : ∀ i, (inv i)[j]?.isSome = true)
    (hb : ∀ (i : Nat), i < n → Sm X ((inv i).set j (.dat (g i))) body (.nx (inv (i + 1)))) (hs : ∀ x, foldedSetIterable e X.env x = pure x := by intro _; rfl) : S1 X A (.For tg e body [] pos) (.nx (inv n)) := by
  subst hsrc
  refine s1_for hX.pass hX.calm hi hg tg_name inv n (by simp) h0 (fun i d hi hd => ?_) (.inl ⟨by simp, rfl⟩) hs
  rw [List.getElem?_map, List.getElem?_range hi] at hd
  cases hd
  exact ⟨_, ⟨hj i, rfl⟩, hb i hi⟩
theorem forR0 {body : List Stmt} {tg : Expr} {n : Nat} {src : List PyData} (j : Nat) (inv : Nat → List C) (hi : EvI X A tg e src) (hsrc : src = (List.range n).map fun i : Nat => .int (i : Int)) (hg : PG X tg (gName j)) (h0 : LeA A (inv 0)) (hj : ∀ i, (inv i)[j]?.isSome = true)
    (hb : ∀ (i : Nat), i < n → Sm X ((inv i).set j (.dat (.int (i : Int)))) body (.nx (inv (i + 1)))) (hs : ∀ x, foldedSetIterable e X.env x = pure x := by intro _; rfl) : S1 X A (.For tg e body [] pos) (.nx (inv n)) := by
  subst hsrc
  refine s1_for hX.pass hX.calm hi hg tg_name inv n (by simp) h0 (fun i d hi hd => ?_) (.inl ⟨by simp, rfl⟩) hs
  rw [List.getElem?_map, List.getElem?_range hi] at hd
  cases hd
  exact ⟨_, ⟨hj i, rfl⟩, hb i hi⟩
/-- for k in range(n) -/
theorem forR {body : List Stmt} {tg : Expr} {n : Nat} {lo : Int} {src : List PyData} (j : Nat) (inv : Nat → List C) (hi : EvI X A tg e src) (hsrc : src = (List.range n).map fun i : Nat => .int (lo + i)) (hg : PG X tg (gName j)) (h0 : LeA A (inv 0)) (hj : ∀ i, (inv i)[j]?.isSome = true)
    (hb : ∀ (i : Nat), i < n → Sm X ((inv i).set j (.dat (.int (lo + i)))) body (.nx (inv (i + 1)))) (hs : ∀ x, foldedSetIterable e X.env x = pure x := by intro _; rfl) : S1 X A (.For tg e body [] pos) (.nx (inv n)) := by
  subst hsrc
  refine s1_for hX.pass hX.calm hi hg tg_name inv n (by simp) h0 (fun i d hi hd => ?_) (.inl ⟨by simp, rfl⟩) hs
  rw [List.getElem?_map, List.getElem?_range hi] at hd
  cases hd
  exact ⟨_, ⟨hj i, rfl⟩, hb i hi⟩
theorem forRx {body : List Stmt} {tg : Expr} {m : Nat} {lo : Int} {src : List PyData} {o o' : Out} (j : Nat) (inv : Nat → List C) (n : Nat) (hn : n < m) (hi : EvI X A tg e src) (hsrc : src = (List.range m).map fun i : Nat => .int (lo + i)) (hg : PG X tg (gName j)) (h0 : LeA A (inv 0)) (hj : ∀ i, (inv i)[j]?.isSome = true)
    (hb : ∀ (i : Nat), i < n → Sm X ((inv i).set j (.dat (.int (lo + i)))) body (.nx (inv (i + 1)))) (hx : Sm X ((inv n).set j (.dat (.int (lo + n)))) body o') (ho : ExitOf o' o) (hs : ∀ x, foldedSetIterable e X.env x = pure x := by intro _; rfl) : S1 X A (.For tg e body [] pos) o := by
  subst hsrc
  refine s1_for hX.pass hX.calm hi hg tg_name inv n (by simp; omega) h0 (fun i d hi hd => ?_) (.inr ⟨_, _, o', ?_, ⟨hj n, rfl⟩, hx, ho⟩) hs
  · rw [List.getElem?_map, List.getElem?_range (by omega)] at hd
    cases hd
    exact ⟨_, ⟨hj i, rfl⟩, hb i hi⟩
  · rw [List.getElem?_map, List.getElem?_range hn]; rfl
theorem whileF {c : Expr} {body : List Stmt} (inv : Nat → List C) (n : Nat) (h0 : LeA A (inv 0)) (hb : ∀ i, i < n → Et X (inv i) c true ∧ Sm X (inv i) body (.nx (inv (i + 1)))) (he : Et X (inv n) c false) : S1 X A (.While c body [] pos) (.nx (inv n)) :=
  s1_while hX.pass inv n h0 hb (.inl ⟨he, rfl⟩)
/-- .. its test told once for all turns -/
theorem whileV {c : Expr} {body : List Stmt} (inv : Nat → List C) (n : Nat) (v : Nat → Bool) (h0 : LeA A (inv 0)) (ht : ∀ i, i ≤ n → Et X (inv i) c (v i)) (hv : ∀ i, i < n → v i = true) (hn : v n = false) (hb : ∀ i, i < n → Sm X (inv i) body (.nx (inv (i + 1)))) : S1 X A (.While c body [] pos) (.nx (inv n)) :=
  s1_while hX.pass inv n h0 (fun i hi => ⟨hv i hi ▸ ht i (Nat.le_of_lt hi), hb i hi⟩) (.inl ⟨hn ▸ ht n (Nat.le_refl n), rfl⟩)
theorem whileFx {c : Expr} {body : List Stmt} {o o' : Out} (inv : Nat → List C) (n : Nat) (h0 : LeA A (inv 0)) (hb : ∀ i, i < n → Et X (inv i) c true ∧ Sm X (inv i) body (.nx (inv (i + 1)))) (he : Et X (inv n) c true) (hx : Sm X (inv n) body o') (ho : ExitOf o' o) : S1 X A (.While c body [] pos) o :=
  s1_while hX.pass inv n h0 hb (.inr ⟨o', he, hx, ho⟩)
/-- the context of a comprehension's block -/
theorem XF.blk {scope : Scope} {s : Shared} {H : Hp} {C : Addr} {cl : List (Str × Addr)} {fp : List Addr} : XF P w K mg base N (relS scope sc) k (X.blk s H scope (compEnvC scope cl C X.env) fp) where
  eP := hX.eP
  eW := hX.eW
  eK := hX.eK
  eM := hX.eM
  eB := hX.eB
  eN := hX.eN
  eS := by rw [← hX.eS]; rfl
  calm := hX.calm
  nd := hX.nd
  room := hX.room
  pass := PassesOwn.never
end
end LR

set_option Elab.async false
set_option linter.all false
set_option maxRecDepth 100000
set_option maxHeartbeats 4000000
/-! The layer LR, part h: comprehensions, raise and the rule of a def over a told context. -/
namespace LR
open PySem PySem.Spec PyProof.Rows L2
section
variable {P : Program} {w : World} {K : PySem.W.Frag} {mg : Str → Option Value} {base : Heap} {N : List Str} {sc : Scope} {k : Nat}
variable {X : Cx} {e a b : Expr} {es : List Expr} {A : List C} {pos p p2 : Pos} {x : Str}

theorem fnF {x qual : Str} {st : Stmt} {f : Addr} {fd : FuncData} {N ps : List Str} {k : Nat} {R : List PyData → Res → Prop} (F : Fun K x qual st f fd) (hm : mg x = some (.ref f)) (b : Binds K fd ps []) (S : FnScope N ps (defScope st)) (hR : ∀ ds r, R ds r → ds.length = ps.length)
    (hbody : ∀ X, XF P w K mg base N (defScope st) k X → XT X → ∀ ds r, R ds r → SmR X (A0 N ds) (defBody st) r) : Fn P w K mg base (k + 1) x ps R :=
  fn_ok F hm b S hR fun cdv A outer s H E hr ds r h => hbody _ ⟨rfl, rfl, rfl, rfl, rfl, rfl, rfl, rfl, S.nd, hr, passes_of rfl⟩ ⟨rfl, rfl, fun _ => rfl⟩ ds r h
variable (hX : XF P w K mg base N sc k X)
include hX
theorem raiseF (hT : XT X) {j} {m : Str} {pos' : Pos} (F : XC K mg x) (hg : GlS sc x) (hdb : (x == ("__debug__" : Str)) = false) : S1 X A (.Raise (some (.Call (.Name x p) [.Constant (.str m) j p2] [] pos)) none pos') (.ex x A) :=
  s1_raise hX.calm (by rw [hX.eK, hX.eM]; exact F) (hX.gl hg) hT.stack hT.frame hdb
theorem lcIf {α : Type} {elt iter c : Expr} {scope : Scope} {src : List PyData} (j : Nat) (xs : List α) (enc : α → PyData) (pr : α → Bool) (f : α → PyData) (hi : EvI X A (.Name x p) iter src) (hsrc : src = xs.map enc) (ok : blkC N sc scope [(x, j)] = true)
    (hN : N[j]? = some x) (hx : (relS scope sc).names.lookup x = some .local) (hz : xs.length < sizeLine) (hj : A[j]?.isSome = true)
    (hb : ∀ Y, XF P w K mg base N (relS scope sc) k Y → ∀ z ∈ xs, Et Y ((A.set j .un).set j (.dat (enc z))) c (pr z) ∧ (pr z = true → Ev Y ((A.set j .un).set j (.dat (enc z))) elt (.dat (f z))))
    (hs : ∀ x, foldedSetIterable iter X.env x = pure x := by intro _; rfl) : Ev X A (.ListComp elt [⟨.Name x p, iter, [c], 0⟩] scope pos) (.own (.lst ((xs.filter pr).map f))) :=
  ev_lc (own := [(x, j)]) (g := gName j) (U := uName j) xs enc pr f hX.calm hX.ndX hi hsrc (by rw [hX.eN, hX.eS]; exact blkOk_by ok) (fun s H C cl fp => tgB hX.blk j hN hx) tg_name tgw_name (Nat.le_refl _) hz
    (fun z hz => ⟨_, ⟨by show ((A.set j .un)[j]?).isSome = true; rw [List.getElem?_set_self (lt_of_some hj)]; rfl, rfl⟩, fun s H C cl fp => (hb _ hX.blk z hz).1, fun h s H C cl fp => (hb _ hX.blk z hz).2 h⟩) hs
theorem lcF {α : Type} {elt iter : Expr} {scope : Scope} {src : List PyData} (j : Nat) (xs : List α) (enc : α → PyData) (f : α → PyData) (hi : EvI X A (.Name x p) iter src) (hsrc : src = xs.map enc) (ok : blkC N sc scope [(x, j)] = true)
    (hN : N[j]? = some x) (hx : (relS scope sc).names.lookup x = some .local) (hz : xs.length < sizeLine) (hj : A[j]?.isSome = true)
    (hb : ∀ Y, XF P w K mg base N (relS scope sc) k Y → ∀ z ∈ xs, Ev Y ((A.set j .un).set j (.dat (enc z))) elt (.dat (f z)))
    (hs : ∀ x, foldedSetIterable iter X.env x = pure x := by intro _; rfl) : Ev X A (.ListComp elt [⟨.Name x p, iter, [], 0⟩] scope pos) (.own (.lst (xs.map f))) := by
  have q := ev_lc (own := [(x, j)]) (g := gName j) (U := uName j) (A := A) (elt := elt) (ifs := []) (pos := pos) xs enc (fun _ => true) f hX.calm hX.ndX hi hsrc (by rw [hX.eN, hX.eS]; exact blkOk_by ok) (fun s H C cl fp => tgB hX.blk j hN hx) tg_name tgw_name (Nat.zero_le _) hz
    (fun z hz => ⟨_, ⟨by show ((A.set j .un)[j]?).isSome = true; rw [List.getElem?_set_self (lt_of_some hj)]; rfl, rfl⟩, rfl, fun h s H C cl fp => hb _ hX.blk z hz⟩) hs
  rw [List.filter_eq_self.mpr fun _ _ => rfl] at q
  exact q
/-- name = [..], no if -/
theorem setLcF {α : Type} {elt iter : Expr} {scope : Scope} {src : List PyData} {y : Str} {py spos : Pos} (i j : Nat) (xs : List α) (enc : α → PyData) (f : α → PyData) (hi : EvI X A (.Name x p) iter src) (hsrc : src = xs.map enc) (ok : blkC N sc scope [(x, j)] = true)
    (hN : N[j]? = some x) (hx : (relS scope sc).names.lookup x = some .local) (hz : xs.length < sizeLine) (hj : A[j]?.isSome = true)
    (hb : ∀ Y, XF P w K mg base N (relS scope sc) k Y → ∀ z ∈ xs, Ev Y ((A.set j .un).set j (.dat (enc z))) elt (.dat (f z)))
    (hyN : N[i]? = some y) (hyl : sc.names.lookup y = some .local) (hyj : A[i]?.isSome = true) (hk : sc.kind = .function) (hl : (py.line == pos.line) = true) (ha : (scope.names.any fun (n, k) => n == y && (k == .local || k == .cell)) = false)
    (hs : ∀ x, foldedSetIterable iter X.env x = pure x := by intro _; rfl) : S1 X A (.Assign [.Name y py] (.ListComp elt [⟨.Name x p, iter, [], 0⟩] scope pos) spos) (.nx (A.set i (.own (.lst (xs.map f))))) := by
  have q := s1_setLc (own := [(x, j)]) (g := gName j) (U := uName j) (A := A) (elt := elt) (ifs := []) (pos := pos) (spos := spos) (py := py) xs enc (fun _ => true) f hX.calm hX.ndX hi hsrc (by rw [hX.eN, hX.eS]; exact blkOk_by ok) (fun s H C cl fp => tgB hX.blk j hN hx) tg_name tgw_name (Nat.zero_le _) hz
    (fun z hz => ⟨_, ⟨by show ((A.set j .un)[j]?).isSome = true; rw [List.getElem?_set_self (lt_of_some hj)]; rfl, rfl⟩, rfl, fun h s H C cl fp => hb _ hX.blk z hz⟩) hs (i := i) (y := y) (by rw [hX.eN]; exact hyN) (by rw [hX.eS]; exact hyl) (sw_true (by rw [hX.eS]; exact hk) (by rw [hX.eS]; exact hyl) hl ha) hyj
  rw [List.filter_eq_self.mpr fun _ _ => rfl] at q
  exact q
/-- over zip: two names -/
theorem lcZ {α : Type} {elt iter : Expr} {scope : Scope} {src : List PyData} {y : Str} {p3 p4 : Pos} {kk} (i j : Nat) (xs : List α) (enc1 enc2 : α → PyData) (f : α → PyData) (hi : EvI X A (.Tuple [.Name x p, .Name y p3] kk p4) iter src) (hsrc : src = xs.map fun z => .tuple [enc1 z, enc2 z]) (ok : blkC N sc scope [(x, i), (y, j)] = true)
    (hNi : N[i]? = some x) (hNj : N[j]? = some y) (hx : (relS scope sc).names.lookup x = some .local) (hy : (relS scope sc).names.lookup y = some .local) (hij : i ≠ j) (hz : xs.length < sizeLine) (hi' : A[i]?.isSome = true) (hj : A[j]?.isSome = true)
    (hb : ∀ Y, XF P w K mg base N (relS scope sc) k Y → ∀ z ∈ xs, Ev Y ((((A.set j .un).set i .un).set i (.dat (enc1 z))).set j (.dat (enc2 z))) elt (.dat (f z)))
    (hs : ∀ x, foldedSetIterable iter X.env x = pure x := by intro _; rfl) : Ev X A (.ListComp elt [⟨.Tuple [.Name x p, .Name y p3] kk p4, iter, [], 0⟩] scope pos) (.own (.lst (xs.map f))) := by
  have l1 := lt_of_some hi'
  have l2 := lt_of_some hj
  have q := ev_lc (own := [(x, i), (y, j)]) (g := gTup X.K [i, j].length (gNames [i, j])) (U := uTup [i, j]) (A := A) (elt := elt) (ifs := []) (pos := pos) xs (fun z => .tuple [enc1 z, enc2 z]) (fun _ => true) f hX.calm hX.ndX hi hsrc (by rw [hX.eN, hX.eS]; exact blkOk_by ok)
    (fun s H C cl fp => pg_tup (es := [.Name x p, .Name y p3]) hX.calm (pgs_cons (e := .Name x p) (es := [.Name y p3]) (tgB hX.blk i hNi hx) (pgs_cons (e := .Name y p3) (es := []) (tgB hX.blk j hNj hy) pgs_nil))) tg_tup (tgw_two hij) (Nat.zero_le _) hz
    (fun z hz => ⟨_, ⟨_, rfl, _, _, rfl, by
      show ((((A.set j .un).set i .un))[i]?).isSome = true
      rw [List.getElem?_set_self (by simpa using l1)]; rfl, _, _, rfl, by
      show (((((A.set j .un).set i .un)).set i _)[j]?).isSome = true
      rw [List.getElem?_set_ne hij, List.getElem?_set_ne hij, List.getElem?_set_self l2]; rfl, rfl, rfl⟩, rfl, fun h s H C cl fp => hb _ hX.blk z hz⟩) hs
  rw [List.filter_eq_self.mpr fun _ _ => rfl] at q
  exact q
end
end LR

set_option Elab.async false
set_option linter.all false
set_option maxRecDepth 100000
set_option maxHeartbeats 4000000
/-! The layer LR, part i: stores by place, repeated lists and tuples, steps of ranges, unpacked lists, equal data. -/
namespace LR
open PySem PySem.Spec PyProof.Rows L2

/-! ### t * 0, t * 1 -/
theorem tuple_mulOne (l : Addr) (items : Array Value) (n : Nat) (dd : Option Addr) (sl : Array (Option Value)) (u : Tok) :
    Meets (Builtin.«tuple.__mul__» ⟨[.ref l, .int 1 u], []⟩) (fun _ R s => s.heap.get? l = some { cls := .type "tuple", dict := dd, data := .seq items n, slots := sl } ∧ R (.ok (.ret (Value.ref l))) s) :=
  .of_wp fun prog w A R s h => by
    obtain ⟨hp, g, d, tk, os⟩ := s
    obtain ⟨hl, h⟩ := h
    have f1 := AutoSeq1.idx_int
    have c1 : (items.isEmpty || (1 : Int) == 1) = true := by simp
    wp_walk using wpAny_loadPart' hl
    repeat (first
      | (refine wpAny_ite_false (decide_eq_false (by decide)) ?_; wp_walk using wpAny_loadPart' hl)
      | (refine wpAny_ite_true (decide_eq_true c1) ?_; wp_walk using wpAny_loadPart' hl))
    exact ⟨_, rfl, h⟩
theorem tuple_mulNone (l : Addr) (items : Array Value) (n : Nat) (dd : Option Addr) (sl : Array (Option Value)) (u : Tok) (hi : items.isEmpty = false) :
    Meets (Builtin.«tuple.__mul__» ⟨[.ref l, .int 0 u], []⟩) (fun _ R s => s.heap.get? l = some { cls := .type "tuple", dict := dd, data := .seq items n, slots := sl } ∧
      R (.ok (.ret (Value.ref s.heap.objs.size))) { s with heap := s.heap.push { cls := Value.type "tuple", data := Data.seq #[] }, toks := s.toks }) :=
  .of_wp fun prog w A R s h => by
    obtain ⟨hp, g, d, tk, os⟩ := s
    obtain ⟨hl, h⟩ := h
    have f1 := AutoSeq1.idx_int
    have c1 : (items.isEmpty || (0 : Int) == 1) = false := by simp [hi]
    have c2 : (decide ((0 : Int) ≤ 0) || items.isEmpty) = true := by simp
    wp_walk using wpAny_loadPart' hl
    repeat (first
      | (refine wpAny_ite_false (decide_eq_false (by decide)) ?_; wp_walk using wpAny_loadPart' hl)
      | (refine wpAny_ite_false (decide_eq_false (by rw [c1]; exact Bool.false_ne_true)) ?_; wp_walk using wpAny_loadPart' hl)
      | (refine wpAny_ite_true (decide_eq_true c2) ?_; wp_walk using wpAny_loadPart' hl))
    exact ⟨_, rfl, h⟩
section
variable {X : Cx}
def rRepA (K : PySem.W.Frag) : R2 := fun x y H Q => ∃ l k xs, x = .ref l ∧ y = .int k ∧ SqT K H l xs ∧ xs ≠ [] ∧ 0 ≤ k ∧ k ≤ 1000 ∧ xs.length ≤ 1000 ∧ (k = 1 → Q (.ref l) H) ∧ (k ≠ 1 → ∀ p, H p = none → Q (.ref p) (upd H p (.tup (List.replicate k.toNat xs).flatten)))
theorem op_repA : OpR X (binaryOp .Mult) (rRepA X.K) := by
  intro pins s σ H x y v u Q I rx ry h
  obtain ⟨l, k, xs, rfl, rfl, hT, hne, h1, h2, hz, q1, q2⟩ := h
  by_cases hk : 2 ≤ k
  · exact op_repT pins s σ H _ _ v u Q I rx ry ⟨l, k, xs, rfl, rfl, hT, hne, hk, h2, hz, q2 (by omega)⟩
  cases rx
  obtain ⟨t, rfl⟩ := ry
  obtain ⟨its, r, ⟨⟨cls, dd, data, sl⟩, ho, hc, n, hd⟩, hs⟩ := I.tuple hT
  simp only at hc hd
  subst hc hd
  have hle : its.length = xs.length := r.length.symm
  have hn : its ≠ [] := fun e => hne (by
    rw [e] at hle
    exact List.eq_nil_of_length_eq_zero hle.symm)
  have hi : its.toArray.isEmpty = false := by
    cases its with
    | nil => exact absurd rfl hn
    | cons a b => rfl
  rcases (show k = 0 ∨ k = 1 by omega) with rfl | rfl
  · refine wpAny_binaryOp_repeat_ref (T := "tuple") (U := "int") (by decide) ⟨_, ho, rfl⟩ (fun s' => typeIs_int s' 0 t) noFill_tuple_mul F.fills_int_mul F.slot_int_rmul repeat_tuple F.slot_int_index.lookup
      (call_meets F.slot_int_rmul (typeIs_int s 0 t) F.entry_int_rmul (F.args_int_rmul_2 _ _) (int_rmul_tuple 0 t l its.toArray n dd sl)
        ⟨ho, rfl, ⟨_, ho, rfl⟩, call_meets F.slot_tuple_mul ⟨_, ho, rfl⟩ F.entry_tuple_mul (F.args_tuple_mul_2 _ _) (tuple_mulNone l its.toArray n dd sl t hi) ⟨ho, ?_⟩⟩)
    refine ⟨.ref s.heap.objs.size, _, I.laid (t' := s.toks) (o := .tup []) (fun b ob q => Heap.get?_push_of_some _ q) (Nat.le_refl _) ?_, rfl, q2 (by decide) _ (I.hok.fresh (Nat.le_refl _))⟩
    exact ⟨Nat.zero_le _, [], .nil, IsTup.new _ _⟩
  · refine wpAny_binaryOp_repeat_ref (T := "tuple") (U := "int") (by decide) ⟨_, ho, rfl⟩ (fun s' => typeIs_int s' 1 t) noFill_tuple_mul F.fills_int_mul F.slot_int_rmul repeat_tuple F.slot_int_index.lookup
      (call_meets F.slot_int_rmul (typeIs_int s 1 t) F.entry_int_rmul (F.args_int_rmul_2 _ _) (int_rmul_tuple 1 t l its.toArray n dd sl)
        ⟨ho, rfl, ⟨_, ho, rfl⟩, call_meets F.slot_tuple_mul ⟨_, ho, rfl⟩ F.entry_tuple_mul (F.args_tuple_mul_2 _ _) (tuple_mulOne l its.toArray n dd sl t) ⟨ho, ?_⟩⟩)
    exact ⟨.ref l, H, I, rfl, q1 rfl⟩
end
theorem rep_one {α : Type} (x : α) : ∀ n : Nat, (List.replicate n [x]).flatten = List.replicate n x
  | 0 => rfl
  | n + 1 => by rw [List.replicate_succ, List.flatten_cons, rep_one x n]; rfl
section
variable {P : Program} {w : World} {K : PySem.W.Frag} {mg : Str → Option Value} {base : Heap} {N : List Str} {sc : Scope} {k : Nat}
variable {X : Cx} {e a b : Expr} {es : List Expr} {A : List C} {pos p p2 : Pos} {x : Str}
theorem ev_repT {ds : List PyData} {n : Int} (h1 : Ev X A a (.dat (.tuple ds))) (h2 : Ev X A b (.dat (.int n))) (hne : ds ≠ []) (h0 : 0 ≤ n) (hn : n ≤ 1000) (hz : ds.length ≤ 1000) : Ev X A (.BinOp a .Mult b pos) (.dat (.tuple (List.replicate n.toNat ds).flatten)) :=
  ev_op op_repA h1 h2 fun I H v w s h1 h2 Q q => by
    obtain ⟨p, xs, rfl, hx, ha⟩ := dp_tup h1
    refine ⟨p, n, xs, rfl, dp_int h2, same_t s hx, fun e0 => ?_, h0, hn, by rw [dpAll_len ha]; exact hz, fun e1 => ?_, fun _ l hl => ?_⟩
    · subst e0
      cases ha
      exact hne rfl
    · subst e1
      refine q _ I H (.refl s) ?_
      have e : (List.replicate (1 : Int).toNat ds).flatten = ds := by simp
      rw [e]
      exact h1
    · have g2 := Grow.new (o := .tup (List.replicate n.toNat xs).flatten) s hl
      exact q _ _ _ g2 (.tup upd_same (dpAll_mono g2.ii (dpAll_rep ha _)))
/-- (c,) * n -/
theorem ev_repI {c n : Int} (h1 : Ev X A a (.dat (.tuple [.int c]))) (h2 : Ev X A b (.dat (.int n))) (h0 : 0 ≤ n) (hn : n ≤ 1000) : Ev X A (.BinOp a .Mult b pos) (.dat (tI (List.replicate n.toNat c))) :=
  ev_eq (ev_repT h1 h2 (by simp) h0 hn (by simp)) (by rw [rep_one]; simp [tI])
theorem ev_repL {ds : List PyData} {n : Int} (h1 : EvL X A a ds) (h2 : Ev X A b (.dat (.int n))) (h0 : 0 ≤ n) (hn : n ≤ 1000) (hz : ds.length ≤ 1000) : Ev X A (.BinOp a .Mult b pos) (.own (.lst (List.replicate n.toNat ds).flatten)) := fun I0 H0 σ I H rl Q q =>
  wx_of (pe_op op_rep wx_pe wx_pe) (h1 I0 H0 σ I H rl _ fun p xs I1 H1 g1 hp ha => h2 I0 H0 σ I1 H1 (rl.grow g1) _ fun v I2 H2 g2 hv =>
    ⟨p, n, xs, rfl, dp_int hv, g2.hh _ _ hp, by omega, by omega, by
      rw [dpAll_len ha, sizeLine_eq]
      have := Nat.mul_le_mul hz (show n.toNat ≤ 1000 by omega)
      omega, fun l hl => by
      have g3 := Grow.newH (o := .lst (List.replicate n.toNat xs).flatten) g2.ih hl
      exact q _ _ _ ((g1.trans g2).trans g3) ⟨l, _, rfl, (g1.trans g2).hh.free hl, g2.ih.free hl, upd_same, dpAll_rep (dpAll_mono g2.ii ha) _⟩⟩)
theorem ev_repLI {c n : Int} (h1 : EvL X A a [.int c]) (h2 : Ev X A b (.dat (.int n))) (h0 : 0 ≤ n) (hn : n ≤ 1000) : Ev X A (.BinOp a .Mult b pos) (.own (.lst ((List.replicate n.toNat c).map .int))) :=
  ev_eq (ev_repL h1 h2 h0 hn (by simp)) (by rw [rep_one, List.map_replicate])

/-- the def's own list at name j has become another -/
theorem rel_mut {K : PySem.W.Frag} {I0 H0 I H : Hp} {A : List C} {σ : L2.St} (r1 : Rel K I0 H0 A σ I H) {j : Nat} {q : Addr} {b b' : Ob} {o : HO} (hA : A[j]? = some (.own b)) (e1 : σ[j]? = some (some (.ref q))) (n0 : H0 q = none) (n1 : I q = none) (hb : ObAt K I o b') :
    Rel K I0 H0 (A.set j (.own b')) σ I (upd H q o) := by
  have hj : j < A.length := by
    by_cases hj : j < A.length
    · exact hj
    · rw [List.getElem?_eq_none (by omega)] at hA; cases hA
  refine ⟨r1.gr.mut n0 n1, by rw [List.length_set]; exact r1.len, fun i c hc => ?_, fun i i' r ne o1 o2 h => ?_⟩
  · by_cases hi : j = i
    · subst hi
      rw [List.getElem?_set_self hj] at hc
      cases hc
      exact ⟨q, _, e1, n0, n1, upd_same, hb⟩
    · rw [List.getElem?_set_ne hi] at hc
      have z := r1.cell i c hc
      cases c with
      | un => trivial
      | rf a => exact z
      | tpo ds es => trivial
      | kn a d => exact z
      | dat d => exact z
      | own b =>
        obtain ⟨q2, o2, e2, m0, m, ho2, hb2⟩ := z
        refine ⟨q2, o2, e2, m0, m, ?_, hb2⟩
        have hne : q2 ≠ q := fun z => by
          subst z
          exact r1.apart j i q2 hi (by rw [hA]; trivial) (by rw [hc]; trivial) e1 e2
        rw [upd_ne hne]
        exact ho2
  · have key : ∀ i : Nat, isOwn (A.set j (.own b'))[i]? → isOwn A[i]? := fun i o => by
      by_cases hi : j = i
      · subst hi; rw [hA]; trivial
      · rw [List.getElem?_set_ne hi] at o; exact o
    exact r1.apart i i' r ne (key i o1) (key i' o2) h
variable (hX : XF P w K mg base N sc k X)
include hX
/-- xs[i] = e, xs the def's own list -/
theorem putF (j : Nat) {ds : List PyData} {d : PyData} {i : Int} {ix : Expr} {p3 p4 : Pos} (hN : N[j]? = some x) (hA : A[j]? = some (.own (.lst ds))) (hv : Vis sc x) (he : Ev X A e (.dat d)) (hi : Ev X A ix (.dat (.int i))) (h0 : 0 ≤ i) (h1 : i < ds.length) (hd : (x == ("__debug__" : Str)) = false) (hcd : (x == ("__classdict__" : Str)) = false)
    (ha : ∀ v, assign (.Subscript (.Name x p3) ix p4) X.env v = (do
      let ov ← holding [v] (eval (.Name x p3) X.env)
      let iv ← holding [v, ov] (eval ix X.env)
      standAt p4
      holding [v, ov, iv] (setItem ov iv v)
      release [v, ov, iv] []) := by intro _; rfl)
    (hs : swapsWithSole [.Subscript (.Name x p3) ix p4] e pos.line X.env = pure false := by rfl) (hw : swappedStores [.Subscript (.Name x p3) ix p4] e X.env = pure none := by rfl) :
    S1 X A (.Assign [.Subscript (.Name x p3) ix p4] e pos) (.nx (A.set j (.own (.lst (ds.set i.toNat d))))) := fun I0 H0 σ I H rl D f => by
  obtain ⟨q, o, e1, n0, n, ho, hb⟩ := rl.cell j _ hA
  obtain ⟨vs, rfl, hv1⟩ := obAt_lst hb
  refine ws_of (ps_asg wx_pe (pg_sub (pe_var (by rw [hX.eN]; exact hN) (hX.vis hv) hd hcd) wx_pe set_list ha) hs hw) ?_
  refine he I0 H0 σ I H rl _ fun v I1 H1 g1 hd1 => ⟨.ref q, e1, ?_⟩
  refine hi I0 H0 σ I1 H1 (rl.grow g1) _ fun u I2 H2 g2 hu => ?_
  have g := g1.trans g2
  have n1 := g.nw q _ ho n
  refine ⟨q, vs, i, i.toNat, rfl, dp_int hu, g.hh _ _ ho, ?_, ?_⟩
  · unfold ixN
    rw [dpAll_len hv1, if_pos h0, if_pos h1]
  · exact f σ I2 _ g.ii (rel_mut (rl.grow g) hA e1 n0 n1 (dpAll_set (dp_mono g2.ii hd1) _ (dpAll_mono g.ii hv1)))
/-- a, b, .. = a list -/
theorem unpL {js : List Nat} {ds : List PyData} {A' : List C} {tgs : List Expr} {kk} (hg : PGs X tgs (gNames js)) (he : EvS X A e true ds) (hu : uNames js A ds A') (hlen : (assignEach tgs X.env).length = js.length := by rfl) (hst : (assignEach tgs X.env).findIdx? (·.1) = none := by rfl)
    (hs : swapsWithSole [.Tuple tgs kk p2] e pos.line X.env = pure false := by rfl) (hw : swappedStores [.Tuple tgs kk p2] e X.env = pure none := by rfl) : S1 X A (.Assign [.Tuple tgs kk p2] e pos) (.nx A') := fun I0 H0 σ I H rl D f =>
  ws_of (ps_asg wx_pe (pg_lst hX.calm hg hlen hst) hs hw) (he I0 H0 σ I H rl _ fun p vs I1 H1 g hk ha =>
    ⟨p, vs, rfl, hk, by rw [dpAll_len ha, uNames_len hu], tg_names hu (rl.grow g) ha _ fun σ' r' => f σ' I1 H1 g.ii r'⟩)
/-- a, b, .. = a tuple -/
theorem unpT {js : List Nat} {ds : List PyData} {A' : List C} {tgs : List Expr} {kk} (hg : PGs X tgs (gNames js)) (he : Ev X A e (.dat (.tuple ds))) (hu : uNames js A ds A') (hlen : (assignEach tgs X.env).length = js.length := by rfl) (hst : (assignEach tgs X.env).findIdx? (·.1) = none := by rfl)
    (hs : swapsWithSole [.Tuple tgs kk p2] e pos.line X.env = pure false := by rfl) (hw : swappedStores [.Tuple tgs kk p2] e X.env = pure none := by rfl) : S1 X A (.Assign [.Tuple tgs kk p2] e pos) (.nx A') := fun I0 H0 σ I H rl D f =>
  ws_of (ps_asg wx_pe (pg_tup hX.calm hg hlen hst) hs hw) (he I0 H0 σ I H rl _ fun v I1 H1 g hv => by
    obtain ⟨p, vs, rfl, hk, ha⟩ := dp_tup (show Dp X.K I1 v (.tuple ds) from hv)
    exact ⟨p, vs, rfl, same_t g.ih hk, by rw [dpAll_len ha, uNames_len hu], tg_names hu (rl.grow g) ha _ fun σ' r' => f σ' I1 H1 g.ii r'⟩)
end
end LR

set_option Elab.async false
set_option linter.all false
set_option maxRecDepth 100000
set_option maxHeartbeats 4000000
/-! The layer LR, part j: equal data, sums of written and other tuples, ranges by steps. -/
namespace LR
open PySem PySem.Spec PyProof.Rows L2

/-- an encoding of a type as data: it may be compared, and comparing tells equality -/
structure Enc {α : Type} [DecidableEq α] (enc : α → PyData) (d : Nat) : Prop where
  lay : ∀ x, (enc x).canLay0 = true
  dep : ∀ x, (enc x).depth ≤ d
  eqv : ∀ x y, PyData.eqv (enc x) (enc y) = decide (x = y)
section
variable {α : Type} [DecidableEq α] {enc : α → PyData} {d : Nat}
theorem Enc.layAll (h : Enc enc d) : ∀ xs : List α, PyData.canLayAll0 (xs.map enc) = true
  | [] => by simp [PyData.canLayAll0]
  | x :: r => by rw [List.map_cons]; simp only [PyData.canLayAll0, h.lay x, Bool.true_and]; exact h.layAll r
theorem Enc.depAll (h : Enc enc d) : ∀ xs : List α, PyData.depthAll (xs.map enc) ≤ d
  | [] => by simp [PyData.depthAll]
  | x :: r => by rw [List.map_cons]; simp only [PyData.depthAll]; have := h.depAll r; have := h.dep x; omega
theorem Enc.eqvAll (h : Enc enc d) : ∀ xs ys : List α, PyData.eqvAll (xs.map enc) (ys.map enc) = decide (xs = ys)
  | [], [] => by simp [PyData.eqvAll]
  | [], y :: ys => by simp [PyData.eqvAll]
  | x :: xs, [] => by simp [PyData.eqvAll]
  | x :: xs, y :: ys => by
    rw [List.map_cons, List.map_cons]
    simp only [PyData.eqvAll, h.eqv x y, h.eqvAll xs ys]
    by_cases e1 : x = y <;> by_cases e2 : xs = ys <;> simp [e1, e2]
theorem Enc.tup (h : Enc enc d) : Enc (fun xs : List α => PyData.tuple (xs.map enc)) (d + 1) where
  lay := fun xs => by simp only [PyData.canLay0]; exact h.layAll xs
  dep := fun xs => by simp only [PyData.depth]; have := h.depAll xs; omega
  eqv := fun xs ys => by simp only [PyData.eqv]; exact h.eqvAll xs ys
theorem Enc.lst (h : Enc enc d) : Enc (fun xs : List α => PyData.list (xs.map enc)) (d + 1) where
  lay := fun xs => by simp only [PyData.canLay0]; exact h.layAll xs
  dep := fun xs => by simp only [PyData.depth]; have := h.depAll xs; omega
  eqv := fun xs ys => by simp only [PyData.eqv]; exact h.eqvAll xs ys
theorem Enc.shaped (h : Enc enc d) (hd : d ≤ 64) (x : α) : SeqAt.shaped (enc x) = true := by
  unfold SeqAt.shaped
  rw [h.lay x, Bool.true_and]
  exact decide_eq_true (Nat.le_trans (h.dep x) hd)
end
theorem encInt : Enc PyData.int 0 where
  lay := fun x => by simp [PyData.canLay0]
  dep := fun x => by simp [PyData.depth]
  eqv := fun x y => by simp only [PyData.eqv]; rfl
theorem encI : Enc tI 1 := encInt.tup
theorem encT : Enc tT 2 := encI.tup
section
variable {P : Program} {w : World} {K : PySem.W.Frag} {mg : Str → Option Value} {base : Heap} {N : List Str} {sc : Scope} {k : Nat}
variable {X : Cx} {e a b : Expr} {es : List Expr} {A : List C} {pos p p2 : Pos} {x : Str}
/-! the last item -/
theorem atLast {α : Type} {xs : List α} (z : α) (h : 0 < xs.length) : atI xs (-1) = some (xs.getD (xs.length - 1) z) := by
  unfold atI ixN
  rw [if_neg (by omega), if_pos (by omega)]
  have e : (-1 + (xs.length : Int)).toNat = xs.length - 1 := by omega
  show xs[(-1 + (xs.length : Int)).toNat]? = _
  rw [e, List.getD_eq_getElem?_getD, List.getElem?_eq_getElem (by omega)]
  rfl
theorem ixLastI {xs : List Int} (h : 0 < xs.length) : IxD (xs.map .int) (-1) (.int (xs.getD (xs.length - 1) 0)) := .lit (by
  have q := atLast (xs := xs.map PyData.int) (.int 0) (by simpa using h)
  rw [q]
  congr 1
  rw [List.length_map, List.getD_eq_getElem?_getD, List.getD_eq_getElem?_getD, List.getElem?_map, List.getElem?_eq_getElem (by omega)]
  rfl)
variable (hX : XF P w K mg base N sc k X)
include hX
theorem cmpEq {α : Type} [DecidableEq α] {enc : α → PyData} {d : Nat} (h : Enc enc d) (hd : d ≤ 64) {x y : α} : CmpR X .Eq b (enc x) (enc y) (decide (x = y)) := (cmpR_eqD hX.room (h.shaped hd x) (h.shaped hd y)).eq (h.eqv x y)
theorem cmpNe {α : Type} [DecidableEq α] {enc : α → PyData} {d : Nat} (h : Enc enc d) (hd : d ≤ 64) {x y : α} : CmpR X .NotEq b (enc x) (enc y) (!decide (x = y)) := (cmpR_neD hX.room (h.shaped hd x) (h.shaped hd y)).eq (by rw [h.eqv x y])
theorem cmpEqI {x y : List Int} : CmpR X .Eq b (tI x) (tI y) (decide (x = y)) := cmpEq hX encI (by decide)
theorem cmpNeI {x y : List Int} : CmpR X .NotEq b (tI x) (tI y) (!decide (x = y)) := cmpNe hX encI (by decide)
theorem cmpEqT {x y : List (List Int)} : CmpR X .Eq b (tT x) (tT y) (decide (x = y)) := cmpEq hX encT (by decide)
theorem cmpNeT {x y : List (List Int)} : CmpR X .NotEq b (tT x) (tT y) (!decide (x = y)) := cmpNe hX encT (by decide)
/-! range(lo, hi, c) -/
theorem range3F {tg : Expr} {lo hi c : Int} {n : Nat} {ea eb ec : Expr} (hg : GlS sc "range") (hm : mg "range" = none) (h : EvA X A [ea, eb, ec] [.int lo, .int hi, .int c]) (hc : c ≠ 0) (hc2 : c.natAbs < 1073741824) (hs : Builtin.Range.small lo hi c = true) (hn : Builtin.Range.rangeSize lo hi c = n)
    (hs1 : starEach [ea, eb, ec] X.env = (false, eval ea X.env) :: starEach [eb, ec] X.env := by rfl) (hpl : (backTo pos (starEach [eb, ec] X.env)).any (·.1) = false := by rfl) :
    EvI X A tg (.Call (.Name "range" p) [ea, eb, ec] [] pos) ((List.range n).map fun i : Nat => .int (lo + i * c)) :=
  ⟨_, pi_range3 (hX.gl hg) (by rw [hX.eM]; exact hm) wa_pa hs1 hpl, fun I0 H0 σ I H rl R q => h I0 H0 σ I H rl _ fun vs I1 H1 g hv => by
    cases hv with
    | cons a1 a2 => cases a2 with
      | cons a2 a3 => cases a3 with
        | cons a3 a4 =>
          cases a4
          refine ⟨lo, hi, c, n, by rw [dp_int a1, dp_int a2, dp_int a3], ⟨hc, hc2, hs, hn⟩, q _ I1 H1 g ⟨fun i d e I2 H2 s1 s2 => ?_, fun I2 H2 s1 s2 => by show n ≤ _; simp⟩⟩
          rw [List.getElem?_map] at e
          by_cases hi : i < n
          · rw [List.getElem?_range hi] at e
            refine ⟨hi, fun x H3 ⟨e3, f⟩ => ?_⟩
            subst e3 f
            simp at e
            subst e
            exact ⟨I2, .refl s2, .int _⟩
          · rw [List.getElem?_eq_none (by simpa using hi)] at e
            cases e⟩
end
/-- steps that go up within small bounds -/
theorem size_up {a b c : Int} (hc : 0 < c) : Builtin.Range.rangeSize a b c = ((b - a + c - 1) / c).toNat := by
  unfold Builtin.Range.rangeSize
  rw [if_pos hc]
  by_cases h : a < b
  · rw [if_pos h]
    have e : b - a + c - 1 = (b - a - 1) + c * 1 := by omega
    rw [e, Int.add_mul_ediv_left _ _ (by omega)]
    have : 0 ≤ (b - a - 1) / c := Int.ediv_nonneg (by omega) (by omega)
    omega
  · rw [if_neg h]
    have h2 : (b - a + c - 1) / c < 1 := Int.ediv_lt_of_lt_mul hc (by omega)
    omega
theorem small_up {a b c : Int} (ha : -1000000 ≤ a) (ha' : a ≤ 1000000) (hb : -1000000 ≤ b) (hb' : b ≤ 1000000) (hc : 0 < c) (hc' : c ≤ 1000000) : Builtin.Range.small a b c = true := by
  have h1 : Builtin.Range.rangeSize a b c ≤ 2000001 ∧ 0 ≤ Builtin.Range.rangeSize a b c := by
    unfold Builtin.Range.rangeSize
    rw [if_pos hc]
    split
    · have h0 : 0 ≤ (b - a - 1) / c := Int.ediv_nonneg (by omega) (by omega)
      have h2 : (b - a - 1) / c ≤ b - a - 1 := Int.ediv_le_self _ (by omega)
      omega
    · omega
  unfold Builtin.Range.small
  generalize Builtin.Range.rangeSize a b c = n at *
  simp only [Builtin.Range.rangeFitsLong, Bool.and_eq_true, Bool.or_eq_true, decide_eq_true_eq, beq_iff_eq, show c > 0 from hc, if_true]
  omega
end LR

set_option Elab.async false
set_option linter.all false
set_option maxRecDepth 100000
set_option maxHeartbeats 4000000
/-! The layer LR, part k: slices of lists with a step. -/
namespace LR
open PySem PySem.Spec PyProof.Rows L2

/-- xs[lo:hi:st] -/
def cutS {α : Type} (xs : List α) (lo hi st : Option Int) : List α :=
  (sliceRange (sliceBounds lo hi st xs.length).1 (sliceBounds lo hi st xs.length).2.1 (sliceBounds lo hi st xs.length).2.2).filterMap (xs[·]?)
theorem cutS_map {α β : Type} (f : α → β) (xs : List α) (lo hi st : Option Int) : cutS (xs.map f) lo hi st = (cutS xs lo hi st).map f := by
  unfold cutS
  rw [List.length_map, List.map_filterMap]
  congr 1
  funext i
  rw [List.getElem?_map]
theorem cutS_pick (its : List Value) (lo hi st : Option Int) : slicePick its.toArray lo hi st = (cutS its lo hi st).toArray := by
  unfold slicePick cutS
  rw [List.size_toArray]
  have e : (fun x : Nat => its.toArray[x]?) = fun x => its[x]? := by funext x; simp
  rw [e]
theorem vals_at : ∀ {vs : List V} {us : List Value}, Vals vs us → ∀ {i : Nat} {v : V}, vs[i]? = some v → ∃ u, us[i]? = some u ∧ RelV v u
  | _, _, .nil, _, _, e => by simp at e
  | _, _, .cons h _, 0, _, e => by simp at e; subst e; exact ⟨_, rfl, h⟩
  | _, _, .cons _ t, i + 1, d, e => by
    obtain ⟨v, h1, h2⟩ := vals_at t (i := i) (v := d) (by simpa using e)
    exact ⟨v, by simpa using h1, h2⟩
theorem pick_rel {vs : List V} {us : List Value} (r : Vals vs us) : ∀ ix : List Nat, Vals (ix.filterMap (vs[·]?)) (ix.filterMap (us[·]?))
  | [] => .nil
  | i :: ix => by
    have hl := r.length
    rw [List.filterMap_cons, List.filterMap_cons]
    by_cases h : i < vs.length
    · obtain ⟨u, e1, e2⟩ := vals_at r (List.getElem?_eq_getElem h)
      rw [List.getElem?_eq_getElem h, e1]
      exact .cons e2 (pick_rel r ix)
    · rw [List.getElem?_eq_none (by omega), List.getElem?_eq_none (by omega)]
      exact pick_rel r ix
theorem pick_dp {K : PySem.W.Frag} {H : Hp} {vs : List V} {ds : List PyData} (r : DpAll K H vs ds) : ∀ ix : List Nat, DpAll K H (ix.filterMap (vs[·]?)) (ix.filterMap (ds[·]?))
  | [] => .nil
  | i :: ix => by
    have hl := dpAll_len r
    rw [List.filterMap_cons, List.filterMap_cons]
    by_cases h : i < ds.length
    · obtain ⟨u, e1, e2⟩ := dpAll_get r (List.getElem?_eq_getElem h)
      rw [List.getElem?_eq_getElem h, e1]
      exact .cons e2 (pick_dp r ix)
    · rw [List.getElem?_eq_none (by omega), List.getElem?_eq_none (by omega)]
      exact pick_dp r ix
section
variable {X : Cx} {e lo : Expr} {te tl : TE} {A : List C}
def tStL (K : PySem.W.Frag) (te tl : TE) (st : Int) : TE := fun σ H Q => te σ H fun x H1 => tPart tl σ H1 fun o H2 => ∃ a xs, x = .ref a ∧ SqL K H2 a xs ∧ ∀ p, H2 p = none → Q (.ref p) (upd H2 p (.lst (cutS xs o none (some st))))
theorem pe_stepL {st : Int} {k} {p1 p3 pos : Pos} (h0 : st ≠ 0) (he : PE X e te) (hl : PE X lo tl) : PE X (.Subscript e (.Slice (some lo) none (some (.Constant (.int st) k p1)) p3) pos) (tStL X.K te tl st) := by
  refine ⟨fun pins s σ H Q I h => ?_⟩
  refine Subscript_ (thn (he.run pins s σ H _ I h) fun v s1 ⟨x, H1, I1, r1, q1⟩ => ?_)
  have hst : PO X (some (.Constant (.int st) k p1)) (tPart (tC (.int st))) := po_some pe_int
  refine wpAny_Slice (thn ((po_some hl).run pins s1 σ H1 _ I1 q1) fun vl s2 ⟨l, H2, I2, pl, q2⟩ => ?_)
  obtain ⟨a, xs, ex, hx, q⟩ := q2
  subst ex
  cases r1
  refine thn (po_none.run pins s2 σ H2 (fun o H3 => o = none ∧ H3 = H2) I2 ⟨rfl, rfl⟩) fun vu s3 ⟨u, H3, I3, pu, eu, e3⟩ => ?_
  subst eu e3
  refine thn (hst.run pins s3 σ H3 (fun o H4 => o = some st ∧ H4 = H3) I3 ⟨st, rfl, rfl, rfl⟩) fun vs s4 ⟨o, H4, I4, ps, eo, e4⟩ => ?_
  subst eo e4
  have I5 : Inv X pins σ H4 { s4 with heap := s4.heap.push { cls := .type "slice", data := .fields #[vl, vu, vs] } } := I4.kept (t' := s4.toks) fun b ob q => Heap.get?_push_of_some _ q
  obtain ⟨its, r, ht, hz⟩ := I5.list hx
  have hlen := r.length
  show wpAny (model X.prog X.w) X.A (subscriptTail e (.Slice (some lo) none (some (.Constant (.int st) k p1)) p3) (.ref a) (.ref s4.heap.objs.size)) (EP X pins σ Q) X.xe { s4 with heap := s4.heap.push { cls := .type "slice", data := .fields #[vl, vu, vs] } }
  refine tail_any (ops := [.ref a, .ref s4.heap.objs.size]) ht.isList.typeIs (PySem.slot_list_getitem.lookup) ?_ (by with_unfolding_all rfl)
  refine wpAny_getItem_list_slice ht.isList (Heap.IsSliceOf.new _ vl vu vs) pl pu ps (fun z => h0 (by cases z; rfl)) ?_ (by rw [List.size_toArray]; omega)
  have hsz := slicePick_size_le its.toArray l none (some st)
  rw [cutS_pick] at hsz ⊢
  rw [List.size_toArray, List.size_toArray] at hsz
  have hr : Vals (cutS xs l none (some st)) (cutS its l none (some st)) := by
    unfold cutS
    rw [hlen]
    exact pick_rel r _
  refine ⟨.ref _, _, I5.laid (t' := s4.toks) (o := .lst (cutS xs l none (some st))) (fun b ob q => Heap.get?_push_of_some _ q) (Nat.le_refl _) ?_, rfl, q _ (I5.hok.fresh (Nat.le_refl _))⟩
  exact ⟨by rw [hr.length]; omega, _, 0, hr, Heap.get?_push_size _ rfl⟩
theorem ev_stepL {l st : Int} {k} {p1 p3 pos : Pos} {ds : List PyData} (h : EvS X A e true ds) (hl : Ev X A lo (.dat (.int l))) (h0 : st ≠ 0) : Ev X A (.Subscript e (.Slice (some lo) none (some (.Constant (.int st) k p1)) p3) pos) (.own (.lst (cutS ds (some l) none (some st)))) := fun I0 H0 σ I H rl Q q =>
  wx_of (pe_stepL h0 wx_pe wx_pe) (h I0 H0 σ I H rl _ fun p vs I1 H1 g1 hk ha => hl I0 H0 σ I1 H1 (rl.grow g1) _ fun i I2 H2 g2 hi =>
    ⟨l, dp_int hi, p, vs, rfl, same_l g2.hh hk, fun r hr => by
      have g := g1.trans g2
      have g4 := Grow.newH (o := .lst (cutS vs (some l) none (some st))) g2.ih hr
      refine q _ _ _ (g.trans g4) ⟨r, _, rfl, g.hh.free hr, g2.ih.free hr, upd_same, ?_⟩
      have hd := dpAll_mono g2.ii ha
      show DpAll X.K I2 (cutS vs _ _ _) (cutS ds _ _ _)
      unfold cutS
      rw [dpAll_len hd]
      exact pick_dp hd _⟩)
end
end LR

set_option Elab.async false
set_option linter.all false
set_option maxRecDepth 100000
set_option maxHeartbeats 4000000
/-! The layer LR, part l: slices of encoded lists and tuples, great products. -/
namespace LR
open PySem PySem.Spec PyProof.Rows L2

theorem cut_range {α : Type} (xs : List α) (j k : Nat) : cut xs (some (j : Int)) (some (k : Int)) = (xs.drop j).take (k - j) := by
  unfold cut
  rw [HT.sIx_nat, HT.sIx_nat]
  by_cases h : j ≤ xs.length
  · rw [Nat.min_eq_left h]
    by_cases h2 : k ≤ xs.length
    · rw [Nat.min_eq_left h2]
    · rw [Nat.min_eq_right (by omega), List.take_of_length_le (by simp), List.take_of_length_le (by simp; omega)]
  · rw [Nat.min_eq_right (by omega : xs.length ≤ j), List.drop_eq_nil_of_le (Nat.le_refl _), List.drop_eq_nil_of_le (by omega : xs.length ≤ j)]
    simp
section
variable {X : Cx} {e lo hi : Expr} {A : List C} {pos p2 : Pos} {α : Type} {enc : α → PyData} {xs : List α}
theorem ev_takeT {i : Int} (h : Ev X A e (.dat (.tuple (xs.map enc)))) (hu : Ev X A hi (.dat (.int i))) (h0 : 0 ≤ i) : Ev X A (.Subscript e (.Slice none (some hi) none p2) pos) (.dat (.tuple ((xs.take i.toNat).map enc))) := by
  obtain ⟨k, rfl⟩ := Int.eq_ofNat_of_zero_le h0
  exact ev_eq (ev_slT h evo_none (evo_some hu)) (by rw [cut_to, Int.toNat_natCast, List.map_take])
theorem ev_dropT {i : Int} (h : Ev X A e (.dat (.tuple (xs.map enc)))) (hu : Ev X A lo (.dat (.int i))) (h0 : 0 ≤ i) : Ev X A (.Subscript e (.Slice (some lo) none none p2) pos) (.dat (.tuple ((xs.drop i.toNat).map enc))) := by
  obtain ⟨k, rfl⟩ := Int.eq_ofNat_of_zero_le h0
  exact ev_eq (ev_slT h (evo_some hu) evo_none) (by rw [cut_from, Int.toNat_natCast, List.map_drop])
theorem ev_midT {i j : Int} (h : Ev X A e (.dat (.tuple (xs.map enc)))) (hl : Ev X A lo (.dat (.int i))) (hu : Ev X A hi (.dat (.int j))) (h0 : 0 ≤ i) (h1 : 0 ≤ j) : Ev X A (.Subscript e (.Slice (some lo) (some hi) none p2) pos) (.dat (.tuple (((xs.drop i.toNat).take (j.toNat - i.toNat)).map enc))) := by
  obtain ⟨k, rfl⟩ := Int.eq_ofNat_of_zero_le h0
  obtain ⟨l, rfl⟩ := Int.eq_ofNat_of_zero_le h1
  exact ev_eq (ev_slT h (evo_some hl) (evo_some hu)) (by rw [cut_range, Int.toNat_natCast, Int.toNat_natCast, List.map_take, List.map_drop])
theorem ev_takeL {i : Int} (h : EvS X A e true (xs.map enc)) (hu : Ev X A hi (.dat (.int i))) (h0 : 0 ≤ i) : Ev X A (.Subscript e (.Slice none (some hi) none p2) pos) (.own (.lst ((xs.take i.toNat).map enc))) := by
  obtain ⟨k, rfl⟩ := Int.eq_ofNat_of_zero_le h0
  exact ev_eq (ev_slL h evo_none (evo_some hu)) (by rw [cut_to, Int.toNat_natCast, List.map_take])
theorem ev_dropL {i : Int} (h : EvS X A e true (xs.map enc)) (hu : Ev X A lo (.dat (.int i))) (h0 : 0 ≤ i) : Ev X A (.Subscript e (.Slice (some lo) none none p2) pos) (.own (.lst ((xs.drop i.toNat).map enc))) := by
  obtain ⟨k, rfl⟩ := Int.eq_ofNat_of_zero_le h0
  exact ev_eq (ev_slL h (evo_some hu) evo_none) (by rw [cut_from, Int.toNat_natCast, List.map_drop])
theorem ev_midL {i j : Int} (h : EvS X A e true (xs.map enc)) (hl : Ev X A lo (.dat (.int i))) (hu : Ev X A hi (.dat (.int j))) (h0 : 0 ≤ i) (h1 : 0 ≤ j) : Ev X A (.Subscript e (.Slice (some lo) (some hi) none p2) pos) (.own (.lst (((xs.drop i.toNat).take (j.toNat - i.toNat)).map enc))) := by
  obtain ⟨k, rfl⟩ := Int.eq_ofNat_of_zero_le h0
  obtain ⟨l, rfl⟩ := Int.eq_ofNat_of_zero_le h1
  exact ev_eq (ev_slL h (evo_some hl) (evo_some hu)) (by rw [cut_range, Int.toNat_natCast, Int.toNat_natCast, List.map_take, List.map_drop])
theorem ev_mulW {a b : Expr} {i j : Int} (h1 : Ev X A a (.dat (.int i))) (h2 : Ev X A b (.dat (.int j))) (hc : CMulW i j) : Ev X A (.BinOp a .Mult b pos) (.dat (.int (i * j))) := ev_op op_mulW h1 h2 (bI hc fun _ => .int _)
theorem ev_divW {a b : Expr} {i j : Int} (h1 : Ev X A a (.dat (.int i))) (h2 : Ev X A b (.dat (.int j))) (hc : CDivW i j) : Ev X A (.BinOp a .FloorDiv b pos) (.dat (.int (i / j))) := ev_op op_fdivW h1 h2 (bI hc fun _ => .int _)
theorem ixM {i : Int} (z : α) (h0 : 0 ≤ i) (h1 : i < xs.length) : IxD (xs.map enc) i (enc (xs.getD i.toNat z)) := .lit (by
  obtain ⟨k, rfl⟩ := Int.eq_ofNat_of_zero_le h0
  have h2 : k < xs.length := by omega
  refine atI_nat ?_
  rw [List.getElem?_map, Int.toNat_natCast, List.getElem?_eq_getElem h2, List.getD_eq_getElem?_getD, List.getElem?_eq_getElem h2]
  rfl)
end
end LR

set_option Elab.async false
set_option linter.all false
set_option maxRecDepth 100000
set_option maxHeartbeats 4000000
/-! The layer LR, part m: x in xs of encoded data, the first of a list at which a thing holds. -/
namespace LR
open PySem PySem.Spec PyProof.Rows L2

theorem find_first {α : Type} (p : α → Bool) : ∀ xs : List α, (xs.find? p = none ∧ ∀ (i : Nat) (h : i < xs.length), p xs[i] = false) ∨ ∃ (k : Nat) (h : k < xs.length), (∀ (i : Nat) (h : i < xs.length), i < k → p xs[i] = false) ∧ p xs[k] = true ∧ xs.find? p = some xs[k]
  | [] => .inl ⟨rfl, fun i h => by simp at h⟩
  | x :: r => by
    cases hx : p x with
    | true => exact .inr ⟨0, by simp, fun i _ h => by omega, hx, by rw [List.find?_cons, hx]; rfl⟩
    | false =>
      rcases find_first p r with ⟨a, b⟩ | ⟨k, hk, a, b, c⟩
      · refine .inl ⟨by rw [List.find?_cons, hx]; exact a, fun i h => ?_⟩
        cases i with
        | zero => exact hx
        | succ i => exact b i (by simpa using h)
      · refine .inr ⟨k + 1, by simpa using hk, fun i h hi => ?_, b, by rw [List.find?_cons, hx]; exact c⟩
        cases i with
        | zero => exact hx
        | succ i => exact a i (by simpa using h) (by omega)
section
variable {X : Cx} {a b : Expr} {A : List C} {pos : Pos}
theorem any_eqv {α : Type} [DecidableEq α] {enc : α → PyData} {dd : Nat} (E : Enc enc dd) (x : α) (xs : List α) : ((xs.map enc).any fun z => PyData.eqv z (enc x)) = decide (x ∈ xs) := by
  rw [Bool.eq_iff_iff, List.any_eq_true, decide_eq_true_eq]
  constructor
  · rintro ⟨z, hz, e⟩
    obtain ⟨y, hy, rfl⟩ := List.mem_map.mp hz
    rw [E.eqv, decide_eq_true_eq] at e
    rw [← e]; exact hy
  · exact fun h => ⟨enc x, List.mem_map.mpr ⟨x, h, rfl⟩, by rw [E.eqv]; exact decide_eq_true rfl⟩
theorem cmpR_in {α : Type} [DecidableEq α] {enc : α → PyData} {dd : Nat} {k : Nat} {x : α} {xs : List α} (hr : Room k X.A) (E : Enc enc dd) (hd : dd ≤ 62) (hm : behindInMarks .In b = false := by rfl) : CmpR X .In b (enc x) (.list (xs.map enc)) (decide (x ∈ xs)) :=
  ⟨_, op_inD (by have := hr.un; omega), bin_val fun I H v w s h1 h2 Q q => ⟨enc x, xs.map enc, (dp_mono s h1).kit (E.shaped (by omega) x), (dp_mono s h2).kit (E.lst.shaped (by omega) xs), E.shaped (by omega) x, E.lst.shaped (by omega) xs, q _ (by rw [any_eqv E]; exact .bl _)⟩, hm⟩
theorem cmpR_nin {α : Type} [DecidableEq α] {enc : α → PyData} {dd : Nat} {k : Nat} {x : α} {xs : List α} (hr : Room k X.A) (E : Enc enc dd) (hd : dd ≤ 62) (hm : behindInMarks .NotIn b = false := by rfl) : CmpR X .NotIn b (enc x) (.list (xs.map enc)) (!decide (x ∈ xs)) :=
  ⟨_, op_notInD (by have := hr.un; omega), bin_val fun I H v w s h1 h2 Q q => ⟨enc x, xs.map enc, (dp_mono s h1).kit (E.shaped (by omega) x), (dp_mono s h2).kit (E.lst.shaped (by omega) xs), E.shaped (by omega) x, E.lst.shaped (by omega) xs, q _ (by rw [any_eqv E]; exact .bl _)⟩, hm⟩
def isNone : PyData → Bool
  | .none => true
  | _ => false
theorem dp_isN {K : PySem.W.Frag} {H : Hp} {v : V} {d : PyData} (h : Dp K H v d) : decide (v = .non) = isNone d := by
  cases h <;> simp [isNone]
theorem cmpR_isN {d : PyData} : CmpR X .Is b d .none (isNone d) := ⟨_, op_isN, bin_val fun I H v w s h1 h2 Q q => ⟨dp_none h2, by rw [dp_isN h1]; exact q _ (.bl _)⟩, nomark _⟩
theorem cmpR_notN {d : PyData} : CmpR X .IsNot b d .none (!isNone d) := ⟨_, op_notN, bin_val fun I H v w s h1 h2 Q q => ⟨dp_none h2, by rw [dp_isN h1]; exact q _ (.bl _)⟩, nomark _⟩
end
end LR

set_option Elab.async false
set_option linter.all false
set_option maxRecDepth 100000
set_option maxHeartbeats 4000000
/-! The layer LR, part n: a, b = x, y of names; an expression alone; reversed tuples; zip of tuples; the first turn at which a test fails. -/
namespace LR
open PySem PySem.Spec PyProof.Rows L2

/-- the first place at which p fails -/
theorem first_not (p : Nat → Bool) : ∀ m : Nat, p m = false → ∃ k, k ≤ m ∧ (∀ i, i < k → p i = true) ∧ p k = false
  | 0, h => ⟨0, Nat.le_refl _, fun i hi => absurd hi (Nat.not_lt_zero _), h⟩
  | m + 1, h => by
    cases h0 : p 0 with
    | false => exact ⟨0, Nat.zero_le _, fun i hi => absurd hi (Nat.not_lt_zero _), h0⟩
    | true =>
      obtain ⟨k, a, b, c⟩ := first_not (fun i => p (i + 1)) m h
      refine ⟨k + 1, by omega, fun i hi => ?_, c⟩
      cases i with
      | zero => exact h0
      | succ i => exact b i (by omega)
theorem swp {x y : Str} {f g : Expr} {px py pt pt2 : Pos} {kt k2} (env : Env) (hxy : (y == x) = false) (hl : (py.line == px.line) = true) (hf : ∀ v q, f ≠ .Starred v q) (hg : ∀ v q, g ≠ .Starred v q)
  (h1 : [f, g].all (foldedForSure 8) = false) (h2 : [f, g].all (constantsAlone 8) = false) (hb : env.blockKind = .function) (kx : env.kindOf x = some .local) (ky : env.kindOf y = some .local) : swappedStores [.Tuple [.Name x px, .Name y py] kt pt] (.Tuple [f, g] k2 pt2) env = pure (some [x, y]) := by
  have e1 : (x == y) = false := by
    rw [beq_eq_false_iff_ne] at hxy ⊢
    exact fun z => hxy z.symm
  have e2 : (env.blockKind != .function) = false := by rw [hb]; rfl
  have e3 : ([x, y] : List Str).eraseDups = [x, y] := by
    simp [List.eraseDups_cons, hxy, e1]
  unfold swappedStores
  simp only [List.length_cons, List.length_nil, e2, List.filterMap_cons, List.filterMap_nil, kx, ky, hl, Expr.pos, List.head?_cons, Option.map_some, Option.getD_some, beq_self_eq_true, Bool.and_self, Bool.true_and, if_true, e3, h1, h2, bne_self_eq_false, Bool.or_false, Bool.not_true, Bool.or_self, Bool.false_eq_true, if_false, Nat.zero_add, Nat.reduceAdd]
  split
  · next h => exact absurd h (by decide)
  · split
    · next h =>
      rw [List.any_eq_true] at h
      obtain ⟨z, hz, h⟩ := h
      split at h
      · rcases List.mem_cons.mp hz with q | q
        · exact absurd q.symm (hf _ _)
        · exact absurd (List.mem_singleton.mp q).symm (hg _ _)
      · cases h
    · rfl
section
variable {P : Program} {w : World} {K : PySem.W.Frag} {mg : Str → Option Value} {base : Heap} {N : List Str} {sc : Scope} {k : Nat}
variable {X : Cx} {e a b : Expr} {es : List Expr} {A : List C} {pos p p2 : Pos} {x y : Str}
theorem walks_revT {K : PySem.W.Frag} {I1 : Hp} {q : Addr} {vs : List V} {src : List PyData} (hs : SqT K I1 q vs) (ha : DpAll K I1 vs src) : Walks K (RT.ItvT K q vs.length) I1 src.reverse := by
  have hl := dpAll_len ha
  refine ⟨fun i d e I2 H2 s1 s2 => ?_, fun I2 H2 s1 s2 => by show vs.length ≤ _; rw [List.length_reverse, hl]; exact Nat.le_refl _⟩
  have hi : i < src.length := by
    by_cases h : i < src.length
    · exact h
    · rw [List.getElem?_eq_none (by rw [List.length_reverse]; omega)] at e; cases e
  rw [List.getElem?_reverse hi] at e
  obtain ⟨v, e1, e2⟩ := dpAll_get ha e
  rw [← hl] at e1
  refine ⟨⟨by omega, vs, v, same_t (s1.trans s2) hs, e1⟩, fun z H3 ⟨e3, f⟩ => ?_⟩
  subst e3
  have e4 : z = v := Option.some.inj ((f _ (same_t (s1.trans s2) hs)).symm.trans e1)
  subst e4
  exact ⟨I2, .refl s2, dp_mono s1 e2⟩
theorem ei_revT {tg : Expr} {src : List PyData} (hg : Gl X "reversed") (hm : X.mg "reversed" = none) (h : Ev X A e (.dat (.tuple src))) (hs : starEach (e :: []) X.env = (false, eval e X.env) :: starEach [] X.env := by rfl) : EvI X A tg (.Call (.Name "reversed" p) [e] [] pos) src.reverse := ⟨_, RT.pi_revA hg hm wx_pe (hs := hs), fun I0 H0 σ I H rl R q => h I0 H0 σ I H rl _ fun v I1 H1 g hv => by
  obtain ⟨a, vs, rfl, hs, ha⟩ := dp_tup (show Dp X.K I1 v (.tuple src) from hv)
  exact ⟨a, vs, rfl, .inr ⟨same_t g.ih hs, q _ I1 H1 g (walks_revT hs ha)⟩⟩⟩
/-- an expression alone -/
theorem s1_expr {c : C} (h : Ev X A e c) (hs : swapsWith e none pos.line X.env = pure false := by rfl) : S1 X A (.Expr e pos) (.nx A) := fun I0 H0 σ I H rl D f =>
  ws_of (ps_expr wx_pe hs) (h I0 H0 σ I H rl _ fun v I1 H1 g _ => f σ I1 H1 g.ii (rl.grow g))
variable (hX : XF P w K mg base N sc k X)
include hX
theorem revTF {tg : Expr} {α : Type} {enc : α → PyData} {xs : List α} (hg : GlS sc "reversed") (hm : mg "reversed" = none) (h : Ev X A e (.dat (.tuple (xs.map enc)))) (hs : starEach (e :: []) X.env = (false, eval e X.env) :: starEach [] X.env := by rfl) : EvI X A tg (.Call (.Name "reversed" p) [e] [] pos) (xs.reverse.map enc) := by
  rw [List.map_reverse]
  exact ei_revT (hX.gl hg) (by rw [hX.eM]; exact hm) h hs
/-- a, b = e, f of two names -/
theorem parF {i j : Nat} {f g : Expr} {d1 d2 : PyData} {px py pt pt2 : Pos} {kt k2} (hi : N[i]? = some x) (hj : N[j]? = some y) (hij : i ≠ j) (hx : sc.names.lookup x = some .local) (hy : sc.names.lookup y = some .local) (ha : EvA X A [f, g] [d1, d2]) (hAi : A[i]?.isSome = true) (hAj : A[j]?.isSome = true)
    (hk : sc.kind = .function) (hxy : (y == x) = false) (hl : (py.line == px.line) = true) (hf : ∀ v q, f ≠ .Starred v q) (hg : ∀ v q, g ≠ .Starred v q) (h1 : [f, g].all (foldedForSure 8) = false) (h2 : [f, g].all (constantsAlone 8) = false)
    (hs : swapsWithSole [.Tuple [.Name x px, .Name y py] kt pt] (.Tuple [f, g] k2 pt2) pos.line X.env = pure false := by rfl) :
    S1 X A (.Assign [.Tuple [.Name x px, .Name y py] kt pt] (.Tuple [f, g] k2 pt2) pos) (.nx ((A.set i (.dat d1)).set j (.dat d2))) := fun I0 H0 σ I H rl D fn =>
  ws_of (ps_par hX.calm hX.ndX (by rw [hX.eN]; exact hi) (by rw [hX.eN]; exact hj) hij (by rw [hX.eS]; exact hx) (by rw [hX.eS]; exact hy) wa_pa (swp X.env hxy hl hf hg h1 h2 (by unfold Env.blockKind; rw [hX.eS, hk]; rfl) (by unfold Env.kindOf; rw [hX.eS]; exact hx) (by unfold Env.kindOf; rw [hX.eS]; exact hy)) hs) (ha I0 H0 σ I H rl _ fun vs I1 H1 g hv => by
    cases hv with
    | cons h1 h2 => cases h2 with
      | cons h2 h3 =>
        cases h3
        refine ⟨_, _, rfl, fn _ I1 H1 g.ii ?_⟩
        have r1 := rel_set (rl.grow g) h1 (lt_of_some hAi)
        refine rel_set r1 h2 ?_
        rw [List.length_set]
        exact lt_of_some hAj)
end
end LR

set_option Elab.async false
set_option linter.all false
set_option maxRecDepth 100000
set_option maxHeartbeats 4000000
/-! The layer LR, part o: try .. except X as e, isinstance of the caught one. -/
namespace LR
open PySem PySem.Spec PyProof.Rows L2

/-- isinstance(e, (X, ..)), e the exception that the suite holds -/
def rIsE2 (K : PySem.W.Frag) (D a : Addr) : List V → Hp → VK → Prop := fun xs H Q => ∃ (tp : Addr) (vs : List V) (b : Bool), xs = [.ref a, .ref tp] ∧ SqT K H tp vs ∧ (∀ us, Vals vs us → PySem.W.kitAny K (.ref D) us = some b) ∧ Q (.bl b) H
theorem call_isE2 {X : Cx} {a D : Addr} {oe : Obj} {pn : List (Addr × Obj)} (C : ExcC X.K D) (hz : Zc (.ref D) none oe) (hf : ∃ vs, oe.data = .fields vs) : CallR (X.suite a ((a, oe) :: pn)) (.builtin "isinstance") (rIsE2 X.K D a) := by
  intro pins s σ H xs us Q I r h
  obtain ⟨tp, vs, b, rfl, hT, e, q⟩ := h
  cases r with
  | cons rx rr =>
    cases rr with
    | cons rt rr =>
      cases rr
      cases rx
      cases rt
      obtain ⟨hget, _⟩ := I.pin (a, oe) (List.mem_append.mpr (.inl List.mem_cons_self))
      obtain ⟨vs', hv⟩ := hf
      have J : PySem.W.InstAt s.heap a oe D none := by
        obtain ⟨oc, od, oda, osl⟩ := oe
        obtain ⟨h1, h2⟩ := hz
        dsimp only at h1 h2 hv
        subst h1 h2 hv
        exact ⟨hget, rfl, rfl, trivial⟩
      obtain ⟨its, rv, ⟨⟨cls, dd, data, sl⟩, ho, hc, n, hd⟩, hs⟩ := I.tuple hT
      simp only at hc hd
      subst hc hd
      exact PySem.W.kia_tup (PySem.W.handS_kitx_exc C.hg C.hk C.hs C.hd C.ha C.hn C.ht C.hm) I.kIn J ho (e _ rv) (fun z => nomatch z) fun tk => ⟨.bl b, H, I.kept (t' := tk) fun _ _ z => z, rfl, q⟩
/-- what is told of a context in which an exception is handled -/
structure XS (P : Program) (w : World) (K : PySem.W.Frag) (mg : Str → Option Value) (N : List Str) (sc : Scope) (D : Addr) (a : Addr) (X : Cx) : Prop where
  eP : X.prog = P
  eW : X.w = w
  eK : X.K = K
  eM : X.mg = mg
  eN : X.N = N
  eS : X.env.scope = sc
  nd : N.Nodup
  is : CallR X (.builtin "isinstance") (rIsE K D a)
  is2 : CallR X (.builtin "isinstance") (rIsE2 K D a)
  fn : ∀ x, X.fn x = true
section
variable {P : Program} {w : World} {K : PySem.W.Frag} {mg : Str → Option Value} {base : Heap} {N : List Str} {sc : Scope} {k : Nat}
variable {X : Cx} {e a b : Expr} {es : List Expr} {A : List C} {pos p p2 : Pos} {x y : Str} {D ad : Addr}
theorem XF.tr (hX : XF P w K mg base N sc k X) {pn : List (Addr × Obj)} {xe : Value → Shared → Prop} (hp : PassesOwn (model X.prog X.w) X.A X.env xe) : XF P w K mg base N sc k (X.tr pn xe) where
  eP := hX.eP
  eW := hX.eW
  eK := hX.eK
  eM := hX.eM
  eB := hX.eB
  eN := hX.eN
  eS := hX.eS
  calm := hX.calm
  nd := hX.nd
  room := hX.room
  pass := hp
theorem XT.tr (hT : XT X) {pn : List (Addr × Obj)} {xe : Value → Shared → Prop} : XT (X.tr pn xe) := ⟨hT.stack, hT.frame, hT.fn⟩
variable (hX : XF P w K mg base N sc k X) (hT : XT X)
include hX hT
/-- a try whose body runs through -/
theorem tryN {body suite : List Stmt} {b₀ : Stmt} {np pos' : Pos} {n : Str} {i : Nat} {cl : Addr} {o : Out} (hN : N[i]? = some n) (hln : sc.names.lookup n = some .local) (hg : GlS sc x) (hm : mg x = some (.ref cl)) (hdb : (x == ("__debug__" : Str)) = false) (ho : ∀ z A1, o ≠ .ex z A1)
    (hb : ∀ Y, XF P w K mg base N sc k Y → XT Y → Sm Y A body o) : S1 X A (.Try body [.ExceptHandler (some (.Name x np)) (some n) (b₀ :: suite) pos'] [] [] pos) o := fun I0 H0 σ I H rl D f => by
  refine ws_of (ps_try_as (i := i) (tb := fun W D σ H => ∀ pn xe, Takes (X.tr pn xe) W → PassesOwn (model X.prog X.w) X.A X.env xe → Wss (X.tr pn xe) body D σ H) (ts := fun a cls d D σ H => ∀ oe pn, Zc cls d oe → (∃ vs, oe.data = .fields vs) → Wss (X.suite a ((a, oe) :: pn)) (b₀ :: suite) D σ H) (Wout := fun _ _ _ _ => False)
    hT.stack hT.frame hX.ndX (by rw [hX.eN]; exact hN) (by unfold Env.kindOf; rw [hX.eS]; exact hln) ⟨hX.gl hg, hdb, .inl (by rw [hX.eM]; exact hm)⟩ takes0 (fun W pn xe tk hp => ⟨fun pins s σ H D I h => h pn xe tk hp pins s I⟩) (fun a oe cls d pn hz hf => ⟨fun pins s σ H D I h => h oe pn hz hf pins s I⟩)) ?_
  intro pn xe tk hp
  refine hb _ (hX.tr hp) hT.tr I0 H0 σ I H rl D ?_
  cases o with
  | nx A1 => exact f
  | rt c => exact f
  | bk A1 => exact f
  | ex z A1 => exact absurd rfl (ho z A1)
/-- a try whose body raises what is caught -/
theorem tryX {body suite : List Stmt} {b₀ : Stmt} {np pos' : Pos} {n z : Str} {i : Nat} {cl D : Addr} {A1 A2 : List C} (hN : N[i]? = some n) (hln : sc.names.lookup n = some .local) (hg : GlS sc x) (hm : mg x = some (.ref cl)) (hdb : (x == ("__debug__" : Str)) = false) (hz : mg z = some (.ref D)) (he : PySem.W.exmOne K (.ref D) (.ref cl) = some true) (hE : ExcC K D) (hi : A1[i]?.isSome = true)
    (hb : ∀ Y, XF P w K mg base N sc k Y → XT Y → Sm Y A body (.ex z A1)) (hs : ∀ Y a, XS P w K mg N sc D a Y → Sm Y (A1.set i (.rf a)) (b₀ :: suite) (.nx A2)) :
    S1 X A (.Try body [.ExceptHandler (some (.Name x np)) (some n) (b₀ :: suite) pos'] [] [] pos) (.nx (A2.set i .un)) := fun I0 H0 σ I H rl Dn f => by
  refine ws_of (ps_try_as (i := i) (tb := fun W D σ H => ∀ pn xe, Takes (X.tr pn xe) W → PassesOwn (model X.prog X.w) X.A X.env xe → Wss (X.tr pn xe) body D σ H) (ts := fun a cls d D σ H => ∀ oe pn, Zc cls d oe → (∃ vs, oe.data = .fields vs) → Wss (X.suite a ((a, oe) :: pn)) (b₀ :: suite) D σ H) (Wout := fun _ _ _ _ => False)
    hT.stack hT.frame hX.ndX (by rw [hX.eN]; exact hN) (by unfold Env.kindOf; rw [hX.eS]; exact hln) ⟨hX.gl hg, hdb, .inl (by rw [hX.eM]; exact hm)⟩ takes0 (fun W pn xe tk hp => ⟨fun pins s σ H D I h => h pn xe tk hp pins s I⟩) (fun a oe cls d pn hz hf => ⟨fun pins s σ H D I h => h oe pn hz hf pins s I⟩)) ?_
  intro pn xe tk hp
  refine hb _ (hX.tr hp) hT.tr I0 H0 σ I H rl Dn ⟨_, tk, fun σ1 I1 H1 s1 r1 c hc => ?_⟩
  have hc : X.mg z = some (.ref c) := hc
  rw [hX.eM, hz] at hc
  cases hc
  refine ⟨true, by rw [hX.eK]; exact he, fun _ a ha oe pn2 hzc hf => ?_, fun q => Bool.noConfusion q⟩
  have r1 : Rel X.K I0 H0 A1 σ1 I1 H1 := r1
  have hE' : ExcC X.K D := by rw [hX.eK]; exact hE
  have xs : XS P w K mg N sc D a (X.suite a ((a, oe) :: pn2)) := ⟨hX.eP, hX.eW, hX.eK, hX.eM, hX.eN, hX.eS, hX.nd, by
    have q := call_isE (X := X) (pn := pn2) (a := a) hE' hzc hf
    rw [hX.eK] at q
    exact q, by
    have q := call_isE2 (X := X) (pn := pn2) (a := a) hE' hzc hf
    rw [hX.eK] at q
    exact q, hT.fn⟩
  refine hs _ a xs I0 H0 _ I1 H1 (rel_rf r1 (lt_of_some hi)) _ fun σ2 I2 H2 s2 r2 => ?_
  exact f _ I2 H2 (s1.trans s2) (rel_un r2)
omit hX hT
variable (hS : XS P w K mg N sc D ad X)
include hS
theorem isE_own (i : Nat) {n T : Str} {c : Addr} {bb : Bool} {p1 : Pos} (hN : N[i]? = some n) (hA : A[i]? = some (.rf ad)) (hv : Vis sc n) (hd : (n == ("__debug__" : Str)) = false) (hcd : (n == ("__classdict__" : Str)) = false) (hg : GlS sc "isinstance") (hm : mg "isinstance" = none) (hgT : GlS sc T) (hmT : mg T = some (.ref c))
    (hdT : (T == ("__debug__" : Str)) = false) (hk : PySem.W.kitOne K (.ref D) (.ref c) = some bb) (hs : starEach (.Name n p1 :: [.Name T p2]) X.env = (false, eval (.Name n p1) X.env) :: starEach [.Name T p2] X.env := by rfl) (hs2 : starEach [.Name T p2] X.env = (false, eval (.Name T p2) X.env) :: starEach [] X.env := by rfl) (hpl : (backTo pos (starEach [.Name T p2] X.env)).any (·.1) = false := by rfl)
    (hb : bootBuiltins "isinstance" = some (.builtin "isinstance") := by decide +kernel) : Ev X A (.Call (.Name "isinstance" p) [.Name n p1, .Name T p2] [] pos) (.dat (.bool bb)) := fun I0 H0 σ I H rl Q q =>
  have gl : ∀ {z : Str}, GlS sc z → Gl X z := fun h => by unfold Gl Env.kindOf; rw [hS.eS]; exact h
  wx_of (pe_callB hS.is (gl hg) (by rw [hS.eM]; exact hm) hb (pa_cons (pe_var (i := i) (by rw [hS.eN]; exact hN) (by rw [hS.eS]; exact hv) hd hcd) (pa_cons (pe_glob (v := .ref c) (gl hgT) (by rw [hS.eM]; exact hmT) rfl hdT) pa_nil hs2) hs) (by decide) (by decide) hs hpl)
    ⟨.ref ad, rl.cell i _ hA, .ref c, .ref c, bb, rfl, fun u hu => hu, hk, q _ I H (.refl rl.ih) (Dp.bl _)⟩
theorem isE_ty (i : Nat) {n : Str} {T : String} {bb : Bool} {p1 : Pos} (hN : N[i]? = some n) (hA : A[i]? = some (.rf ad)) (hv : Vis sc n) (hd : (n == ("__debug__" : Str)) = false) (hcd : (n == ("__classdict__" : Str)) = false) (hg : GlS sc "isinstance") (hm : mg "isinstance" = none) (hgT : GlS sc (Str.ofString T)) (hmT : mg (Str.ofString T) = none)
    (hbT : bootBuiltins (Str.ofString T) = some (.type T)) (hn : Str.ofString T ≠ "__name__") (hdT : (Str.ofString T == ("__debug__" : Str)) = false) (hk : PySem.W.kitOne K (.ref D) (.type T) = some bb) (hs : starEach (.Name n p1 :: [.Name (Str.ofString T) p2]) X.env = (false, eval (.Name n p1) X.env) :: starEach [.Name (Str.ofString T) p2] X.env := by rfl) (hs2 : starEach [.Name (Str.ofString T) p2] X.env = (false, eval (.Name (Str.ofString T) p2) X.env) :: starEach [] X.env := by rfl) (hpl : (backTo pos (starEach [.Name (Str.ofString T) p2] X.env)).any (·.1) = false := by rfl)
    (hb : bootBuiltins "isinstance" = some (.builtin "isinstance") := by decide +kernel) : Ev X A (.Call (.Name "isinstance" p) [.Name n p1, .Name (Str.ofString T) p2] [] pos) (.dat (.bool bb)) := fun I0 H0 σ I H rl Q q =>
  have gl : ∀ {z : Str}, GlS sc z → Gl X z := fun h => by unfold Gl Env.kindOf; rw [hS.eS]; exact h
  wx_of (pe_callB hS.is (gl hg) (by rw [hS.eM]; exact hm) hb (pa_cons (pe_var (i := i) (by rw [hS.eN]; exact hN) (by rw [hS.eS]; exact hv) hd hcd) (pa_cons (pe_bltn (v := .ty T) (gl hgT) (by rw [hS.eM]; exact hmT) hbT rfl hn hdT) pa_nil hs2) hs) (by decide) (by decide) hs hpl)
    ⟨.ref ad, rl.cell i _ hA, .ty T, .type T, bb, rfl, fun u hu => hu, hk, q _ I H (.refl rl.ih) (Dp.bl _)⟩
theorem nmS (i : Nat) {d : PyData} (hN : N[i]? = some x) (hA : A[i]? = some (.dat d)) (hv : Vis sc x) (hd : (x == ("__debug__" : Str)) = false) (hcd : (x == ("__classdict__" : Str)) = false) : Ev X A (.Name x pos) (.dat d) :=
  ev_name i (by rw [hS.eN]; exact hN) hA (by rw [hS.eS]; exact hv) hd hcd
theorem ownlS (i : Nat) {ds : List PyData} (hN : N[i]? = some x) (hA : A[i]? = some (.own (.lst ds))) (hv : Vis sc x) (hd : (x == ("__debug__" : Str)) = false) (hcd : (x == ("__classdict__" : Str)) = false) : EvL X A (.Name x pos) ds :=
  evl_own i (by rw [hS.eN]; exact hN) hA (by rw [hS.eS]; exact hv) hd hcd
theorem setS (j : Nat) {c : C} {pos' : Pos} (hN : N[j]? = some x) (hx : L2.Loc sc x) (he : Ev X A e c) (hj : A[j]?.isSome = true) (hs : swapsWith e (some (.Name x pos')) pos.line X.env = pure false := by rfl) : S1 X A (.Assign [.Name x pos'] e pos) (.nx (A.set j c)) :=
  s1_set j (by rw [hS.eN]; exact hS.nd) (by rw [hS.eN]; exact hN) (by rw [hS.eS]; exact hx) he hj rfl hs (.inl (hS.fn _))
omit hS
/-- names of classes -/
def ClsA (X : Cx) (es : List Expr) (vs : List V) : Prop := ∀ σ H (Q : List V → Hp → Prop), Q vs H → Wa X es σ H Q
theorem clsA_nil : ClsA X [] [] := fun σ H Q q => wa_of pa_nil q
include hS
theorem clsA_cons {T : Str} {c : Addr} {vs : List V} {p1 : Pos} (hgT : GlS sc T) (hmT : mg T = some (.ref c)) (hdT : (T == ("__debug__" : Str)) = false) (h : ClsA X es vs) (hs : starEach (.Name T p1 :: es) X.env = (false, eval (.Name T p1) X.env) :: starEach es X.env := by rfl) : ClsA X (.Name T p1 :: es) (.ref c :: vs) := fun σ H Q q =>
  have gl : ∀ {z : Str}, GlS sc z → Gl X z := fun h => by unfold Gl Env.kindOf; rw [hS.eS]; exact h
  wa_of (pa_cons (pe_glob (v := .ref c) (gl hgT) (by rw [hS.eM]; exact hmT) rfl hdT) wa_pa hs) (h σ H _ q)
theorem isE_tup (i : Nat) {n : Str} {vs : List V} {bb : Bool} {p1 : Pos} {k1} (hN : N[i]? = some n) (hA : A[i]? = some (.rf ad)) (hv : Vis sc n) (hd : (n == ("__debug__" : Str)) = false) (hcd : (n == ("__classdict__" : Str)) = false) (hg : GlS sc "isinstance") (hm : mg "isinstance" = none) (hc : ClsA X es vs) (hz : vs.length ≤ sizeLine)
    (hk : ∀ us, Vals vs us → PySem.W.kitAny K (.ref D) us = some bb) (hs : starEach (.Name n p1 :: [.Tuple es k1 p2]) X.env = (false, eval (.Name n p1) X.env) :: starEach [.Tuple es k1 p2] X.env := by rfl) (hs2 : starEach [.Tuple es k1 p2] X.env = (false, eval (.Tuple es k1 p2) X.env) :: starEach [] X.env := by rfl) (hpl : (backTo pos (starEach [.Tuple es k1 p2] X.env)).any (·.1) = false := by rfl)
    (hb : bootBuiltins "isinstance" = some (.builtin "isinstance") := by decide +kernel) : Ev X A (.Call (.Name "isinstance" p) [.Name n p1, .Tuple es k1 p2] [] pos) (.dat (.bool bb)) := fun I0 H0 σ I H rl Q q =>
  have gl : ∀ {z : Str}, GlS sc z → Gl X z := fun h => by unfold Gl Env.kindOf; rw [hS.eS]; exact h
  wx_of (pe_callB hS.is2 (gl hg) (by rw [hS.eM]; exact hm) hb (pa_cons (pe_var (i := i) (by rw [hS.eN]; exact hN) (by rw [hS.eS]; exact hv) hd hcd) (pa_cons (pe_tup wa_pa) pa_nil hs2) hs) (by decide) (by decide) hs hpl)
    ⟨.ref ad, rl.cell i _ hA, hc σ H _ ⟨hz, fun t ht => ⟨t, vs, bb, rfl, .inl (.inl upd_same), hk, q _ I _ (Grow.newH rl.ih ht) (Dp.bl _)⟩⟩⟩
end
/-! what the ends tell of exception classes -/
/-- instances of the class x may be asked for their class -/
def XD (K : PySem.W.Frag) (mg : Str → Option Value) (x : Str) : Prop := ∃ d, mg x = some (.ref d) ∧ ExcC K d
/-- whether an instance of x is one of y -/
def XO (K : PySem.W.Frag) (mg : Str → Option Value) (x y : Str) (b : Bool) : Prop := ∃ d c, mg x = some (.ref d) ∧ mg y = some (.ref c) ∧ PySem.W.kitOne K (.ref d) (.ref c) = some b
def XV (K : PySem.W.Frag) (mg : Str → Option Value) (x : Str) (y : String) (b : Bool) : Prop := ∃ d, mg x = some (.ref d) ∧ PySem.W.kitOne K (.ref d) (.type y) = some b
/-- except y takes x -/
def XM (K : PySem.W.Frag) (mg : Str → Option Value) (x y : Str) : Prop := ∃ d c, mg x = some (.ref d) ∧ mg y = some (.ref c) ∧ PySem.W.exmOne K (.ref d) (.ref c) = some true
end LR

set_option Elab.async false
set_option linter.all false
set_option maxRecDepth 100000
set_option maxHeartbeats 4000000
/-! The layer LR, part p: what raises within an expression. -/
namespace LR
open PySem PySem.Spec PyProof.Rows L2

/-- one of the arguments raises x -/
def EvAX (X : Cx) (A : List C) (es : List Expr) (x : Str) : Prop := ∀ I0 H0 σ I H, Rel X.K I0 H0 A σ I H → ∀ W : WX, Takes X W → (∀ I' H', Grow I H I' H' → ∀ c, X.mg x = some (.ref c) → W (.ref c) none σ H') → ∀ Q : List V → Hp → Prop, Wa X es σ H Q
section
variable {X : Cx} {e a b : Expr} {es : List Expr} {A : List C} {pos p p2 : Pos} {x y : Str}
theorem eax_here (h : EvX X A e x) (hs : starEach (e :: es) X.env = (false, eval e X.env) :: starEach es X.env := by rfl) : EvAX X A (e :: es) x := fun I0 H0 σ I H rl W tk q Q =>
  wa_of (pa_cons wx_pe wa_pa hs) (h I0 H0 σ I H rl W tk q _)
theorem eax_next {d : PyData} (h1 : Ev X A e (.dat d)) (h : EvAX X A es x) (hs : starEach (e :: es) X.env = (false, eval e X.env) :: starEach es X.env := by rfl) : EvAX X A (e :: es) x := fun I0 H0 σ I H rl W tk q Q =>
  wa_of (pa_cons wx_pe wa_pa hs) (h1 I0 H0 σ I H rl _ fun v I1 H1 g1 hv => h I0 H0 σ I1 H1 (rl.grow g1) W tk (fun I2 H2 g2 c hc => q I2 H2 (g1.trans g2) c hc) _)
theorem evx_tup {k} (h : EvAX X A es x) : EvX X A (.Tuple es k pos) x := fun I0 H0 σ I H rl W tk q Q =>
  wx_of (pe_tup wa_pa) (h I0 H0 σ I H rl W tk q _)
/-- e, alone, raises -/
theorem s1_exprX (h : EvX X A e x) (hs : swapsWith e none pos.line X.env = pure false := by rfl) : S1 X A (.Expr e pos) (.ex x A) := fun I0 H0 σ I H rl D f => by
  obtain ⟨W, tk, f⟩ := f
  exact ws_of (ps_expr wx_pe hs) (h I0 H0 σ I H rl W tk (fun I1 H1 g c hc => f σ I1 H1 g.ii (rl.grow g) c hc) _)
theorem s1_retX (h : EvX X A e x) : S1 X A (.Return (some e) pos) (.ex x A) := fun I0 H0 σ I H rl D f => by
  obtain ⟨W, tk, f⟩ := f
  exact ws_of (ps_ret wx_pe) (h I0 H0 σ I H rl W tk (fun I1 H1 g c hc => f σ I1 H1 g.ii (rl.grow g) c hc) _)
theorem s1_setX (j : Nat) {pos' : Pos} (hN : X.N.Nodup) (hi : X.N[j]? = some y) (hx : L2.Loc X.env.scope y) (h : EvX X A e x) (hs : swapsWith e (some (.Name y pos')) pos.line X.env = pure false := by rfl)
    (hf : X.fn y = true ∨ X.env.scope.names.lookup y = some .local := by first | exact .inl rfl | exact .inr rfl | assumption) : S1 X A (.Assign [.Name y pos'] e pos) (.ex x A) := fun I0 H0 σ I H rl D f => by
  obtain ⟨W, tk, f⟩ := f
  exact ws_of (ps_set hN hi hx wx_pe hs hf) (h I0 H0 σ I H rl W tk (fun I1 H1 g c hc => f σ I1 H1 g.ii (rl.grow g) c hc) _)
/-- xs.append(e), e raises -/
theorem s1_appX (j : Nat) {z : Str} {ds : List PyData} {p3 p4 : Pos} (hN : X.N[j]? = some z) (hA : A[j]? = some (.own (.lst ds))) (hv : Vis X.env.scope z) (h : EvX X A e x)
    (hd : (z == ("__debug__" : Str)) = false := by decide) (hcd : (z == ("__classdict__" : Str)) = false := by decide) (hs : starEach (e :: []) X.env = (false, eval e X.env) :: starEach [] X.env := by rfl) (hpl : ((backTo p3 (starEach (e :: []) X.env)).all (fun x => !x.1) && (backToKw p3 (keywordEach [] X.env)).all (fun x => x.1.isSome) && decide (([e] : List Expr).length + ([] : List Keyword).length + (if ([] : List Keyword).isEmpty then 0 else 1) < 30)) = true := by rfl) (hline : (p2.endLine == p3.line) = true := by rfl)
    (hsw : swapsWith (.Call (.Attribute (.Name z p) "append" p2) [e] [] p3) none p4.line X.env = pure false := by rfl) : S1 X A (.Expr (.Call (.Attribute (.Name z p) "append" p2) [e] [] p3) p4) (.ex x A) := fun I0 H0 σ I H rl D f => by
  obtain ⟨W, tk, f⟩ := f
  obtain ⟨q, o, e1, n0, n, ho, hb⟩ := rl.cell j _ hA
  obtain ⟨vs, rfl, ha⟩ := obAt_lst hb
  refine ws_of (ps_expr (pe_bm PySem.F.plainAttrs_list PySem.F.slot_list_append PySem.F.type_list_append mt_append (pe_var hN hv hd hcd) (pa_cons wx_pe pa_nil hs) (hfew := hpl) (hline := hline) (hs := hs) (hplain := rfl)) hsw) ⟨.ref q, e1, .inl ⟨rfl, _, .inl (.inl ho)⟩, ?_⟩
  exact h I0 H0 σ I H rl W tk (fun I1 H1 g c hc => f σ I1 H1 g.ii (rl.grow g) c hc) _
end
end LR

set_option Elab.async false
set_option linter.all false
set_option maxRecDepth 100000
set_option maxHeartbeats 4000000
/-! The layer LR, part q: sorted(xs, key=f), f a def whose results are whole numbers. -/
namespace LR
open PySem PySem.Spec PyProof.Rows L2

theorem each_vals {xs : List V} {its : List Value} {ds : List PyData} {K : PySem.W.Frag} {I : Hp} (r : Vals xs its) (h : DpAll K I xs ds) : PySem.W.EachIs (fun (v : Value) (p : V × PyData) => RelV p.1 v ∧ Dp K I p.1 p.2) its (xs.zip ds) := by
  induction r generalizing ds with
  | nil => cases h; exact .nil
  | cons a b ih =>
    cases h with
    | cons c d => exact .cons ⟨a, c⟩ (ih d)
theorem zip_snd {xs : List V} : ∀ {ds : List PyData}, xs.length = ds.length → (xs.zip ds).map (·.2) = ds := by
  induction xs with
  | nil => intro ds h; cases ds with
    | nil => rfl
    | cons => cases h
  | cons x r ih => intro ds h; cases ds with
    | nil => cases h
    | cons d s =>
      rw [List.zip_cons_cons, List.map_cons, ih (by simpa using h)]
theorem vals_each {K : PySem.W.Frag} {I : Hp} : ∀ {out : List Value} {zs : List (V × PyData)}, PySem.W.EachIs (fun (v : Value) (p : V × PyData) => RelV p.1 v ∧ Dp K I p.1 p.2) out zs → Vals (zs.map (·.1)) out ∧ DpAll K I (zs.map (·.1)) (zs.map (·.2))
  | _, _, .nil => ⟨.nil, .nil⟩
  | _, _, .cons a b => ⟨.cons a.1 (vals_each b).1, .cons a.2 (vals_each b).2⟩
theorem each_snoc' {α β : Type} {R : α → β → Prop} {a : α} {b : β} (h : R a b) : ∀ {as : List α} {bs : List β}, PySem.W.EachIs R as bs → PySem.W.EachIs R (as ++ [a]) (bs ++ [b])
  | _, _, .nil => .cons h .nil
  | _, _, .cons p q => .cons p (each_snoc' h q)
/-- sorted(xs, key=f) -/
def rSortF (K : PySem.W.Frag) (f : Addr) (R : List PyData → Res → Prop) : List V → List V → Hp → VK → Prop := fun vs zs H Q => ∃ (a : Addr) (xs : List V) (ds : List PyData) (key : PyData → Int) (I : Hp), vs = [V.ref a] ∧ zs = [V.ref f] ∧ SqL K H a xs ∧ Same I H ∧ DpAll K I xs ds ∧ (∀ d ∈ ds, R [d] (.ok (.dat (.int (key d))))) ∧
  ∀ (ys : List V) (I2 H2 : Hp) (p : Addr), Grow I H I2 H2 → DpAll K I2 ys (ds.mergeSort fun a b => decide (key a ≤ key b)) → H p = none → I2 p = none → H2 p = none → Q (.ref p) (upd H2 p (.lst ys))
theorem le_key {α : Type} (k : α → Int) (a b : α) : PySem.W.dataLe false (fun x => PyData.int (k x)) a b = decide (k a ≤ k b) := by
  show (!PyProof.Rows.lexLt PyProof.Rows.itemOrd [Sum.inl (k b)] [Sum.inl (k a)]) = _
  simp [PyProof.Rows.lexLt, PyProof.Rows.itemLt]
  rw [← decide_not]
  exact decide_eq_decide.mpr (by omega)
section
variable {X : Cx} {A : List C} {pos p p2 : Pos} {x : Str}
theorem sorted_loop {pins : List (Addr × Obj)} {σ : L2.St} {k : Nat} {pn : Str} {R : List PyData → Res → Prop} {f : Addr} {fd : FuncData} (F : FnOk X.prog X.w X.K X.mg X.base (L2.CX X.prog X.w) k f fd [pn] (Spec X.K X.mg R)) (hr : Room (k + 2) X.A) (hb : Binds X.K fd [pn] [])
    {s : Shared} {H I : Hp} {a kS : Addr} {its : List Value} {xs : List V} {ds : List PyData} {key : PyData → Int} {e1 : Nat} {Pf : PySem.Fin → Shared → Prop} {E : Value → Shared → Prop}
    (Iv : Inv X pins σ H s) (hih : Same I H) (nk : s.heap.get? kS = some (seqObj "list" #[] 0)) (na : s.heap.get? a = some (seqObj "list" #[] e1)) (hka : kS ≠ a) (Hk : H kS = none) (Ha : H a = none)
    (f1 : ∀ c, (c = kS ∨ c = a) → X.s_0.heap.objs.size ≤ c ∧ c ≠ X.env.locals ∧ (∀ x d, X.env.cells.lookup x = some d → d ≠ c) ∧ (∀ p ∈ X.pn ++ pins, p.1 ≠ c) ∧ c ∉ X.fs)
    (rv : Vals xs its) (hd : DpAll X.K I xs ds) (hR : ∀ d ∈ ds, R [d] (.ok (.dat (.int (key d))))) (hz : its.length ≤ sizeLine)
    (done : ∀ (ys : List V) (I2 H2 : Hp) (s2 : Shared), Grow I H I2 H2 → DpAll X.K I2 ys (ds.mergeSort fun a b => decide (key a ≤ key b)) → Inv X pins σ (upd H2 a (.lst ys)) s2 → I2 a = none → H2 a = none → Pf (.done (.ret .none)) s2) :
    wpAny (model X.prog X.w) X.A.in1.in1 (PyProof.Rows.ksk_rest a (.ref f) false its.toArray e1 (.ref kS)) Pf E s := by
  unfold PyProof.Rows.ksk_rest
  refine wpAny_bind (wpAny_rule ?_)
  first
    | rw [List.forIn_toArray]
    | (rw [← Array.forIn_toList]; simp only [List.toList_toArray])
    | rw [← Array.forIn_toList]
  have hlx : its.length = ds.length := by rw [← rv.length, dpAll_len hd]
  refine wpAny_bind (PyProof.Rows.ksk_fold (fun i s' => ∃ I' H' kA e, Inv X ((kS, seqObj "list" kA e) :: (a, seqObj "list" #[] e1) :: pins) σ H' s' ∧ Grow I H I' H' ∧ I' a = none ∧ PySem.W.EachIs (fun (v : Value) (d : PyData) => ∃ t, v = Value.int (key d) t) kA.toList (ds.take i)) its 0 s
    ⟨I, H, #[], 0, ?start, .refl hih, ?sa, by rw [List.take_zero]; exact PySem.W.EachIs.nil⟩ ?step ?done)
  case sa => exact hih.free Ha
  case start =>
    refine Iv.pins_of fun p hp => ?_
    rcases List.mem_cons.mp hp with rfl | hp
    · exact ⟨nk, Hk, (f1 kS (.inl rfl)).2.1, (f1 kS (.inl rfl)).2.2.2.2, fun v z => by cases z⟩
    · rcases List.mem_cons.mp hp with rfl | hp
      · exact ⟨na, Ha, (f1 a (.inr rfl)).2.1, (f1 a (.inr rfl)).2.2.2.2, fun v z => by cases z⟩
      · exact Iv.pin p (List.mem_append.mpr (.inr hp))
  case step =>
    rintro j x s' hx ⟨I', H', kA, e, J, g, ia, hk⟩
    simp only [Nat.zero_add] at hk ⊢
    have hj : j < its.length := (List.getElem?_eq_some_iff.mp hx).1
    obtain ⟨d, hdj⟩ : ∃ d, ds[j]? = some d := ⟨_, List.getElem?_eq_getElem (by omega)⟩
    obtain ⟨v, hv, hvd⟩ := dpAll_get hd hdj
    obtain ⟨x', hx', rx⟩ := rv.get hv
    have ex : x' = x := Option.some.inj (hx'.symm.trans hx)
    subst ex
    have hszk : kA.size ≤ its.length := by
      have h1 := hk.length
      rw [Array.length_toList, List.length_take] at h1
      omega
    have rm : Room k X.A.in1.in1 := Room.in1 (Room.in1 hr)
    refine wpAny_bind (wpAny_attempt ?_)
    refine wpAny_call (codeAny_mono (F.run X.A.in1.in1 X.stack s' H' ⟨[x'], []⟩ [x'] [v] (fun u H2 => ∃ I2, Grow I' H' I2 H2 ∧ u = .int (key d)) (fun _ _ _ => False) rm J.env0.in1.in1 ?bn (.cons rx .nil) ?sp) fun r s2 hq => ?_)
    case bn =>
      have := hb s' [x'] J.kIn rfl
      simpa using this
    case sp =>
      refine ⟨I', [d], .ok (.dat (.int (key d))), g.ih, .cons (dp_mono g.ii hvd) .nil, hR d (List.mem_of_getElem? hdj), fun u I2 H2 g2 hu => ⟨I2, g2, dp_int hu⟩⟩
    cases r with
    | error e =>
      obtain ⟨_, _, _, _, _, _, _, _, _, _, _, _, z⟩ := hq
      exact z.elim
    | ok fl =>
      cases fl with
      | next => exact False.elim hq
      | brk => exact False.elim hq
      | cont => exact False.elim hq
      | ret u =>
        obtain ⟨v2, H2, os, bare, un, hok, r2, I2, g2, rfl⟩ := hq
        obtain ⟨t2, rfl⟩ : ∃ t, u = Value.int (key d) t := r2
        have J2 : Inv X ((kS, seqObj "list" kA e) :: (a, seqObj "list" #[] e1) :: pins) σ H2 s2 := J.call' (ch := []) os un hok bare (fun _ z => nomatch z)
        have pk := J2.pin (kS, seqObj "list" kA e) (List.mem_append.mpr (.inr List.mem_cons_self))
        have pa := J2.pin (a, seqObj "list" #[] e1) (List.mem_append.mpr (.inr (List.mem_cons_of_mem _ List.mem_cons_self)))
        obtain ⟨c2, hc2⟩ : ∃ c2, (s2.heap.update kS (Obj.mapSeq (·.push (Value.int (key d) t2)))).get? kS = some (seqObj "list" (kA.push (Value.int (key d) t2)) c2) := ⟨_, get?_update_seq pk.1 (·.push (Value.int (key d) t2))⟩
        have s1 := Heap.SameBut.update s2.heap kS (Obj.mapSeq (·.push (Value.int (key d) t2)))
        refine wpAny_bind (listUpdate_at pk.1 rfl ?_ (Nat.le_trans hszk hz) (Nat.le_trans (Nat.le_of_eq (Array.size_push ..)) (Nat.succ_le_succ (Nat.le_trans hszk hz))))
        have ff := f1 kS (.inl rfl)
        have J3 : Inv X ((a, seqObj "list" #[] e1) :: pins) σ H2 s2 := J2.pins_of fun p hp => J2.pin p (List.mem_append.mpr (.inr (List.mem_cons_of_mem _ hp)))
        have J4 : Inv X ((a, seqObj "list" #[] e1) :: pins) σ H2 { s2 with heap := s2.heap.update kS (Obj.mapSeq (·.push (Value.int (key d) t2))), toks := s2.toks } :=
          J3.turned (it := kS) (t' := s2.toks) (fun b o hb e => (s1.2 b hb).trans e) pk.2.1 ff.2.1 (.inr ff.1) ff.2.2.1 fun p hp => by
            rcases List.mem_append.mp hp with z | z
            · exact ff.2.2.2.1 p (List.mem_append.mpr (.inl z))
            · rcases List.mem_cons.mp z with rfl | z
              · exact hka.symm
              · exact ff.2.2.2.1 p (List.mem_append.mpr (.inr z))
        refine wpAny_pure ⟨rfl, I2, H2, kA.push (Value.int (key d) t2), c2, ?_, g.trans g2, ?_, ?_⟩
        · refine J4.pins_of fun p hp => ?_
          rcases List.mem_cons.mp hp with rfl | hp
          · exact ⟨hc2, pk.2.1, ff.2.1, ff.2.2.2.2, fun v z => by cases z⟩
          · exact J4.pin p (List.mem_append.mpr (.inr hp))
        · exact g2.ih.free pa.2.1
        · have e3 : ds.take (j + 1) = ds.take j ++ [d] := by rw [List.take_add_one, hdj]; rfl
          rw [e3, Array.toList_push]
          exact each_snoc' (R := fun (v : Value) (d : PyData) => ∃ t, v = Value.int (key d) t) ⟨t2, rfl⟩ hk
  case done =>
    rintro s' ⟨I', H', kA, e, J, g, ia, hk⟩
    have pk := J.pin (kS, seqObj "list" kA e) (List.mem_append.mpr (.inr List.mem_cons_self))
    have pa := J.pin (a, seqObj "list" #[] e1) (List.mem_append.mpr (.inr (List.mem_cons_of_mem _ List.mem_cons_self)))
    have e3 : ds.take (0 + its.length) = ds := List.take_of_length_le (by omega)
    rw [e3] at hk
    have hszk : kA.size = its.length := by
      have h1 := hk.length
      rw [Array.length_toList] at h1
      omega
    have hkd : PySem.W.EachIs (fun (v : Value) (d : PyData) => ∃ as, Reads s'.heap v d as) kA.toList (ds.map fun d => PyData.int (key d)) := by
      have go : ∀ {ks : List Value} {ds : List PyData}, PySem.W.EachIs (fun (v : Value) (d : PyData) => ∃ t, v = Value.int (key d) t) ks ds → PySem.W.EachIs (fun (v : Value) (d : PyData) => ∃ as, Reads s'.heap v d as) ks (ds.map fun d => PyData.int (key d)) := by
        intro ks ds h
        induction h with
        | nil => exact .nil
        | cons a b ih =>
          obtain ⟨t, rfl⟩ := a
          exact .cons ⟨[], .int _ _⟩ ih
      exact go hk
    obtain ⟨G, g1, g2⟩ := restrict s'.heap fun b => decide (b ≠ kS)
    have gk : ∀ b o, b ≠ kS → s'.heap.get? b = some o → G.get? b = some o := fun b o hb e => by
      rw [g1 b (decide_eq_true hb)]
      exact e
    have gkS : G.get? kS = none := g2 kS (decide_eq_false fun z => z rfl)
    have kp : PySem.W.KeepsBut a G s'.heap := fun b o hb e => by
      by_cases hbk : b = kS
      · subst hbk; rw [gkS] at e; cases e
      · rw [← g1 b (decide_eq_true hbk)]; exact e
    have hal : PySem.W.AllAlike (ds.map fun d => PyData.int (key d)) := fun d hd d' hd' => by
      obtain ⟨_, _, rfl⟩ := List.mem_map.mp hd
      obtain ⟨_, _, rfl⟩ := List.mem_map.mp hd'
      rfl
    have hso : PySem.W.Sortable (ds.map fun d => PyData.int (key d)) := .inr fun d hd => by
      obtain ⟨_, _, rfl⟩ := List.mem_map.mp hd
      exact ⟨(fun z => by cases z), fun _ z => by cases z⟩
    refine wpAny_bind (listItems_at pk.1 rfl ?_)
    refine PySem.W.keyH_end (κ := PySem.W.dataKind s'.heap (ds.map fun d => PyData.int (key d))) (h₁ := G) kp gkS pk.1 pa.1 hka (PySem.W.SortsAt.data hkd hal hso fun d hd => ?room) hszk hz fun h' tk c k3 n3 => ?_
    case room =>
      obtain ⟨_, _, rfl⟩ := List.mem_map.mp hd
      have := hr.un
      show X.A.units + 1 + 1 + PyData.depth (.int _) < _
      rw [PyData.depth]
      omega
    have ko : PySem.W.KeyedOut false (ds.map fun d => PyData.int (key d)) its (PySem.W.sortVals (PySem.W.dataKind s'.heap (ds.map fun d => PyData.int (key d))) false kA.toList its) := ⟨s'.heap, kA.toList, hal, rfl, hkd⟩
    generalize PySem.W.sortVals (PySem.W.dataKind s'.heap (ds.map fun d => PyData.int (key d))) false kA.toList its = out at *
    have ez : (xs.zip ds).map (fun p => PyData.int (key p.2)) = ds.map fun d => PyData.int (key d) := by
      conv => rhs; rw [← zip_snd (xs := xs) (ds := ds) (dpAll_len hd)]
      rw [List.map_map]
      rfl
    rw [← ez] at ko
    have each := PySem.W.keyedOut_each (fun p : V × PyData => PyData.int (key p.2)) ko (each_vals rv (dpAll_mono g.ii hd))
    have em : ((xs.zip ds).mergeSort (PySem.W.dataLe false fun p : V × PyData => PyData.int (key p.2))).map (·.2) = ds.mergeSort fun a b => decide (key a ≤ key b) := by
      rw [List.map_mergeSort (s := fun a b => decide (key a ≤ key b)) (fun a _ b _ => le_key (fun p : V × PyData => key p.2) a b), zip_snd (dpAll_len hd)]
    obtain ⟨w1, w2⟩ := vals_each each
    rw [em] at w2
    have hol : out.length = its.length := ko.length (by rw [List.length_map, List.length_zip, dpAll_len hd, Nat.min_self]; exact hlx.symm)
    generalize ((xs.zip ds).mergeSort (PySem.W.dataLe false fun p : V × PyData => PyData.int (key p.2))).map (·.1) = ys at *
    refine done ys I' H' _ g w2 ?_ ia pa.2.1
    have J0 : Inv X pins σ H' s' := J.pins_of fun p hp => J.pin p (List.mem_append.mpr (.inr (List.mem_cons_of_mem _ (List.mem_cons_of_mem _ hp))))
    have fa := f1 a (.inr rfl)
    have fk := f1 kS (.inl rfl)
    have kept : ∀ b o, b ∉ [a, kS] → s'.heap.get? b = some o → h'.get? b = some o := fun b o hb e => by
      have h1 : b ≠ a := fun z => hb (by simp [z])
      have h2 : b ≠ kS := fun z => hb (by simp [z])
      exact k3 b o h1 (gk b o h2 e)
    have nH : ∀ b u, H' b = some u → b ∉ [a, kS] := fun b u e z => by
      rcases List.mem_cons.mp z with rfl | z
      · rw [pa.2.1] at e; cases e
      · rw [List.mem_singleton.mp z, pk.2.1] at e; cases e
    have ne : ∀ b u, H' b = some u → b ≠ a := fun b u e z => nH b u e (by simp [z])
    refine J0.step (ch := [a, kS]) (g' := s'.gens) (d' := s'.drawn) (fun b hb => ?_) (fun b o _ _ hc e _ => kept b o hc e) (fun b o _ _ hc e _ => ⟨o.slots, kept b o hc e⟩) (fun b o hc e n => ?_) (fun b o hc e => ⟨o, kept b o hc e⟩)
      (fun b zs q => by rw [upd_ne (ne b _ q)]; exact q) (fun b o u q => by rw [upd_ne (ne b _ q)]; exact q) (fun b ps q => ⟨#[], by rw [upd_ne (ne b _ q), q]; simp⟩) (fun m hm => ?_) (fun b u q => ?_) J0.bare
    · rcases List.mem_cons.mp hb with rfl | hb
      · exact ⟨.inr fa.1, fa.2.1, fa.2.2.1, fa.2.2.2.1⟩
      · rw [List.mem_singleton.mp hb]
        exact ⟨.inr fk.1, fk.2.1, fk.2.2.1, fk.2.2.2.1⟩
    · rw [upd_ne (fun z => hc (by simp [z]))]; exact n
    · obtain ⟨o, es, ep, ho, r⟩ := hm
      refine ⟨o, es, ep, kept _ _ (fun z => ?_) ho, r⟩
      rcases List.mem_cons.mp z with z | z
      · exact fa.2.1 z.symm
      · exact fk.2.1 (List.mem_singleton.mp z).symm
    · by_cases hba : b = a
      · subst hba
        rw [upd_same] at q
        cases q
        exact ⟨by rw [w1.length, hol]; exact hz, out, c, w1, n3⟩
      · rw [upd_ne hba] at q
        refine (J0.hok b u q).stay (fun c v hc z => kept c v ?_ z) (fun c z => by rw [upd_ne (ne c _ z)]; exact z) (fun c zs z => by rw [upd_ne (ne c _ z)]; exact z)
        rcases hc with z | z
        · rw [z]; exact nH b u q
        · exact nH c _ z
theorem cr_sortF {k : Nat} {pn : Str} {R : List PyData → Res → Prop} {f : Addr} {fd : FuncData} (F : FnOk X.prog X.w X.K X.mg X.base (L2.CX X.prog X.w) k f fd [pn] (Spec X.K X.mg R)) (hr : Room (k + 2) X.A) (hb : Binds X.K fd [pn] []) :
    CallRK X (.builtin "sorted") [Str.ofString "key"] (rSortF X.K f R) := by
  intro pins s σ H vs zs us ws Q I r rz h
  obtain ⟨l, xs, ds, key, I1, rfl, rfl, hs, hih, hd, hR, q⟩ := h
  obtain rfl := Vals.ref1 r
  obtain ⟨w1, rfl, e1⟩ := vals1 rz
  obtain rfl : w1 = Value.ref f := e1
  obtain ⟨its, rv, hl, hz⟩ := I.list hs
  have hz' : its.length ≤ sizeLine := by rw [← rv.length]; exact hz
  refine PySem.W.sorted_of_sort hl.isList hz' (PyProof.Rows.ksk_s1 _ _) (fun _ => PyProof.Rows.ksk_l1 _ _) fun E' => ?_
  rw [show ([Str.ofString "key"].zip [Value.ref f]) = [(Str.ofString "key", Value.ref f)] from rfl, PyProof.Rows.ksk_t1]
  have ho := PySem.W.copyHeap_at s.heap its
  have sz0 : (PySem.W.copyHeap s.heap its).objs.size = s.heap.objs.size + 2 := by
    unfold PySem.W.copyHeap
    rw [size_push', Heap.size_update, size_push']
  obtain ⟨e1, ho1⟩ : ∃ e1, ((PySem.W.copyHeap s.heap its).update (s.heap.objs.size + 1) (Obj.mapSeq fun _ => (#[] : Array Value))).get? (s.heap.objs.size + 1) = some (seqObj "list" #[] e1) := ⟨_, get?_update_seq ho fun _ => #[]⟩
  have hkS : (((PySem.W.copyHeap s.heap its).update (s.heap.objs.size + 1) (Obj.mapSeq fun _ => (#[] : Array Value))).push (seqObj "tuple" its.toArray 0)).objs.size = s.heap.objs.size + 3 := by rw [size_push', Heap.size_update, sz0]
  unfold PyProof.Rows.ksk_tree
  refine wpAny_bind (listItems_at (s := { s with heap := PySem.W.copyHeap s.heap its }) ho rfl ?_)
  refine wpAny_bind (listUpdate_at (s := { s with heap := PySem.W.copyHeap s.heap its }) ho rfl ?_ (by rw [List.size_toArray]; exact hz') (Nat.zero_le _))
  refine wpAny_bind (seqEpoch_at ho1 rfl ?_)
  refine wpAny_bind (wpAny_newTuple ?_ (by show its.length ≤ _; exact hz'))
  refine wpAny_bind (wpAny_newList ?_ (Nat.zero_le _))
  refine wpAny_holding ?_
  have old : ∀ b o, s.heap.get? b = some o → ((((PySem.W.copyHeap s.heap its).update (s.heap.objs.size + 1) (Obj.mapSeq fun _ => (#[] : Array Value))).push (seqObj "tuple" its.toArray 0)).push (seqObj "list" #[] 0)).get? b = some o := fun b o e => by
    have hlt := Heap.lt_size e
    refine Heap.get?_push_of_some _ (Heap.get?_push_of_some _ ?_)
    rw [Heap.get?_update_ne _ _ _ _ (Nat.ne_of_lt (Nat.lt_succ_of_lt hlt))]
    exact PySem.W.copyHeap_old e
  have I2 : Inv X pins σ H { s with heap := (((PySem.W.copyHeap s.heap its).update (s.heap.objs.size + 1) (Obj.mapSeq fun _ => (#[] : Array Value))).push (seqObj "tuple" its.toArray 0)).push (seqObj "list" #[] 0), toks := s.toks } := I.kept old
  have hlt : ∀ c, s.heap.objs.size ≤ c → X.s_0.heap.objs.size ≤ c ∧ c ≠ X.env.locals ∧ (∀ x d, X.env.cells.lookup x = some d → d ≠ c) ∧ (∀ p ∈ X.pn ++ pins, p.1 ≠ c) ∧ c ∉ X.fs := fun c hc => by
    refine ⟨Nat.le_trans I.sz hc, fun z => ?_, fun x d e z => ?_, fun p hp z => ?_, I.nofs hc⟩
    · exact absurd (Nat.lt_of_le_of_lt (z ▸ hc) I.lt) (Nat.lt_irrefl _)
    · obtain ⟨v, o, ho, _⟩ := I.cell x d e
      exact absurd (Nat.lt_of_lt_of_le (Heap.lt_size ho) (z ▸ hc)) (Nat.lt_irrefl _)
    · exact absurd (Nat.lt_of_lt_of_le (Heap.lt_size (I.pin p hp).1) (z ▸ hc)) (Nat.lt_irrefl _)
  refine sorted_loop (kS := (((PySem.W.copyHeap s.heap its).update (s.heap.objs.size + 1) (Obj.mapSeq fun _ => (#[] : Array Value))).push (seqObj "tuple" its.toArray 0)).objs.size) (key := key) F hr hb I2 hih (Heap.get?_push_size _ rfl) (Heap.get?_push_of_some _ (Heap.get?_push_of_some _ ho1)) (by rw [hkS]; exact Nat.ne_of_gt (Nat.lt_succ_of_lt (Nat.lt_succ_self _)))
    (I.hok.fresh (by rw [hkS]; exact Nat.le_add_right _ _)) (I.hok.fresh (Nat.le_succ _)) (fun c hc => hlt c (by
      rcases hc with z | z
      · rw [z, hkS]; exact Nat.le_add_right _ _
      · rw [z]; exact Nat.le_succ _)) rv hd hR hz' fun ys I3 H3 s3 g w J ia ha => ?_
  exact ⟨rfl, .ref _, _, J, rfl, q ys I3 H3 _ g w (I.hok.fresh (Nat.le_succ _)) ia ha⟩
/-- sorted(e, key=f) -/
theorem ev_sortF {k : Nat} {pn y : Str} {R : List PyData → Res → Prop} {ds : List PyData} {e : Expr} (key : PyData → Int) {np kp : Pos} (G : Fn X.prog X.w X.K X.mg X.base k y [pn] R) (hr : Room (k + 2) X.A) (hg : Gl X "sorted") (hm : X.mg "sorted" = none) (hgy : Gl X y) (h : EvS X A e true ds) (hR : ∀ d ∈ ds, R [d] (.ok (.dat (.int (key d)))))
    (hdb : (y == ("__debug__" : Str)) = false := by decide) (hb : bootBuiltins "sorted" = some (.builtin "sorted") := by decide +kernel) (he : backTo pos (starEach (e :: []) X.env) = (false, eval e X.env) :: backTo pos (starEach [] X.env) := by rfl) (hpl : (backTo pos (starEach (e :: []) X.env)).any (·.1) = false := by rfl)
    (hall : (backToKw pos (keywordEach [⟨some (Str.ofString "key"), .Name y np, kp⟩] X.env)).all (·.1.isSome) = true := by rfl) (hnone : (backToKw pos (keywordEach [⟨some (Str.ofString "key"), .Name y np, kp⟩] X.env)).any (·.1.isNone) = false := by rfl) (hks : (backToKw pos (keywordEach [⟨some (Str.ofString "key"), .Name y np, kp⟩] X.env)).filterMap (·.1) = [Str.ofString "key"] := by rfl) (hs : starEach (e :: []) X.env = (false, eval e X.env) :: starEach [] X.env := by rfl) :
    Ev X A (.Call (.Name "sorted" p) [e] [⟨some (Str.ofString "key"), .Name y np, kp⟩] pos) (.own (.lst (ds.mergeSort fun a b => decide (key a ≤ key b)))) := fun I0 H0 σ I H rl Q q => by
  obtain ⟨f, fd, F, hmy, hk, hbd, _⟩ := G.ex
  exact wx_of (pe_callBK (cr_sortF F hr hbd) hg hm hb (pa_cons wx_pe pa_nil hs) (pk_cons (pe_glob (v := .ref f) hgy hmy rfl hdb) pk_nil) (by decide) (by decide) he hpl hall hnone hks) (h I0 H0 σ I H rl _ fun p vs I1 H1 g hkk ha =>
    ⟨p, vs, ds, key, I1, rfl, rfl, hkk, g.ih, ha, hR, fun ys I2 H2 a g2 w n1 n2 n3 => by
      have g3 := Grow.newH (o := .lst ys) g2.ih n3
      exact q _ _ _ ((g.trans g2).trans g3) ⟨a, _, rfl, g.hh.free n1, n2, upd_same, w⟩⟩)
end
end LR

set_option Elab.async false
set_option linter.all false
set_option maxRecDepth 100000
set_option maxHeartbeats 4000000
/-! The layer LR, part r: t[::-1] of a tuple. -/
namespace LR
open PySem PySem.Spec PyProof.Rows L2 HT RZ

theorem pick_all {α : Type} : ∀ l : List α, (List.range l.length).filterMap (fun k => l[k]?) = l
  | [] => rfl
  | x :: r => by
    rw [List.length_cons, List.range_succ_eq_map, List.filterMap_cons, List.filterMap_map]
    show x :: (List.range r.length).filterMap (fun k => r[k]?) = _
    rw [pick_all r]
theorem fm_congr {α β : Type} {f g : α → Option β} : ∀ {l : List α}, (∀ x ∈ l, f x = g x) → l.filterMap f = l.filterMap g
  | [], _ => rfl
  | x :: r, h => by
    rw [List.filterMap_cons, List.filterMap_cons, h x List.mem_cons_self, fm_congr fun y hy => h y (List.mem_cons_of_mem _ hy)]
theorem rev_pick {α : Type} (xs : List α) : (List.range xs.length).filterMap (fun k : Nat => xs[(((xs.length : Int) - 1) + (k : Int) * (-1)).toNat]?) = xs.reverse := by
  have h := pick_all xs.reverse
  rw [List.length_reverse] at h
  conv => rhs; rw [← h]
  refine fm_congr fun k hk => ?_
  have hk := List.mem_range.mp hk
  rw [List.getElem?_reverse hk]
  congr 1
  omega
section
variable {prog : Program} {w : World} {A : Around} {E : Value → Shared → Prop} {s : Shared}
theorem sliceApplied_rev {sl : Addr} {t : Tok} {n : Nat} {Q : Int × Int × Nat → Shared → Prop} (hs : s.heap.IsSliceOf sl .none .none (.int (-1) t))
    (h : Q ((n : Int) - 1, -1, n) s) : wpAny (model prog w) A (Builtin.Slice.sliceApplied (.ref sl) (pure (n : Int))) Q E s := by
  obtain ⟨os, hos, hcs, hds⟩ := id hs
  unfold Builtin.Slice.sliceApplied Builtin.Slice.sliceFields
  refine wpAny_bind (wpAny_bind (wpAny_field hos hds (x := .none) rfl (wpAny_bind (wpAny_field hos hds (x := .none) rfl (wpAny_bind (wpAny_field hos hds (x := .int (-1) t) rfl (wpAny_pure ?_)))))))
  refine wpAny_bind (slicePart_int ?_)
  show wpAny _ _ (if ((-1 : Int) == 0) = true then _ else _) _ _ s
  rw [if_neg (by decide)]
  refine wpAny_bind (slicePart_none (wpAny_bind (slicePart_none (wpAny_bind (wpAny_pure ?_)))))
  show wpAny _ _ (match Builtin.Slice.sliceAdjust none none (-1) (n : Int) with | (lo, hi) => pure (lo, (-1 : Int), Builtin.Slice.slicePlaces lo hi (-1))) _ _ s
  have e : Builtin.Slice.sliceAdjust none none (-1) (n : Int) = ((n : Int) - 1, -1) := by
    unfold Builtin.Slice.sliceAdjust
    rfl
  rw [e]
  have e2 : Builtin.Slice.slicePlaces ((n : Int) - 1) (-1) (-1) = n := by
    unfold Builtin.Slice.slicePlaces
    simp
    omega
  show wpAny _ _ (pure ((n : Int) - 1, (-1 : Int), Builtin.Slice.slicePlaces ((n : Int) - 1) (-1) (-1))) _ _ s
  rw [e2]
  exact wpAny_pure h
theorem getItem_tuple_rev {t sl : Addr} {its : List Value} {tk : Tok} {Q : Value → Shared → Prop} (ht : IsTup s.heap t its.toArray) (hs : s.heap.IsSliceOf sl .none .none (.int (-1) tk)) (hz : its.length ≤ sizeLine)
    (h : Q (.ref s.heap.objs.size) { s with heap := s.heap.push { cls := .type "tuple", data := .seq its.reverse.toArray } }) : wpAny (model prog w) A (getItem (.ref t) (.ref sl)) Q E s := by
  have htake : sizeOk (.seq its.reverse.toArray) := by
    show its.reverse.toArray.size ≤ sizeLine
    rw [List.size_toArray, List.length_reverse]
    exact hz
  obtain ⟨os, hos, hcs, hds⟩ := id hs
  have hTs : s.TypeIs (.ref sl) "slice" := ⟨os, hos, hcs⟩
  unfold getItem
  try with_reducible refine wpAny_holding ?_
  first | refine wpAny_bind (wpAny_pure ?_) | skip
  refine wpAny_bind (wpAny_sequenceKey ht.typeIs (by decide) ?_)
  refine wpAny_bind (wpAny_callSpecial?_slot (name := Str.ofString "__getitem__") ht.typeIs PyProof.Rows.slot_tuple_getitem
    (wpAny_call_entry PyProof.Rows.slot_tuple_getitem ht.typeIs entry_tuple_getitem ?_ (args_tuple_getitem _ _)))
  show wpAny _ _ (Builtin.Tuple.tupleItemsOf (.ref t) >>= _) _ _ s
  refine wpAny_bind (tupleItemsOf_ ht ?_)
  refine wpAny_bind (wpAny_typeOf hTs ?_)
  rw [if_pos (by decide)]
  refine wpAny_bind (sliceApplied_rev hs ?_)
  have hno : ¬ ((((its.toArray.size : Int) - 1) == 0 && (-1 : Int) == 1 && its.toArray.size == its.toArray.size) = true) := by simp
  show wpAny _ _ (if (((its.toArray.size : Int) - 1) == 0 && (-1 : Int) == 1 && its.toArray.size == its.toArray.size) = true then _ else _) _ _ s
  rw [if_neg hno]
  have e : (List.range its.toArray.size).filterMap (fun (k : Nat) => its.toArray[(((its.toArray.size : Int) - 1) + (k : Int) * (-1)).toNat]?) = its.reverse := by
    rw [List.size_toArray, ← rev_pick its]
    congr 1
    funext k
    simp
  rw [e]
  first
    | exact wpAny_bind (m := Builtin.Tuple.tupleExact _) (wpAny_newObj_type (wpAny_pure ⟨_, rfl, wpAny_pure h⟩) htake)
    | exact wpAny_bind (m := Builtin.Tuple.tupleExact _) (wpAny_newObj_type (wpAny_bind (wpAny_pure (wpAny_pure ⟨_, rfl, wpAny_pure h⟩))) htake)
    | exact wpAny_bind (wpAny_bind (m := Builtin.Tuple.tupleExact _) (wpAny_newObj_type (wpAny_pure (wpAny_pure ⟨_, rfl, wpAny_pure h⟩)) htake))
    | exact wpAny_bind (wpAny_bind (m := Builtin.Tuple.tupleExact _) (wpAny_newObj_type (wpAny_pure ⟨_, rfl, wpAny_pure h⟩) htake))
end
theorem vals_rev : ∀ {vs : List V} {us : List Value}, Vals vs us → Vals vs.reverse us.reverse
  | _, _, .nil => .nil
  | _, _, .cons h t => by
    rw [List.reverse_cons, List.reverse_cons]
    exact (vals_rev t).append (.cons h .nil)
section
variable {X : Cx} {e st : Expr} {te : TE} {A : List C}
def tRevT (K : PySem.W.Frag) (te ts : TE) : TE := fun σ H Q => te σ H fun x H1 => ts σ H1 fun i H2 => i = .int (-1) ∧ ∃ a xs, x = .ref a ∧ SqT K H2 a xs ∧ ∀ p, H2 p = none → Q (.ref p) (upd H2 p (.tup xs.reverse))
theorem pe_revT {ts : TE} {p3 pos : Pos} (he : PE X e te) (hst : PE X st ts) : PE X (.Subscript e (.Slice none none (some st) p3) pos) (tRevT X.K te ts) := by
  refine ⟨fun pins s σ H Q I h => ?_⟩
  refine Subscript_ (thn (he.run pins s σ H _ I h) fun v s1 ⟨x, H1, I1, r1, q1⟩ => ?_)
  refine wpAny_Slice (thn (po_none.run pins s1 σ H1 (fun o H3 => o = none ∧ H3 = H1) I1 ⟨rfl, rfl⟩) fun vl s2 ⟨l, H2, I2, pl, el, e2⟩ => ?_)
  subst el e2
  refine thn (po_none.run pins s2 σ H2 (fun o H3 => o = none ∧ H3 = H2) I2 ⟨rfl, rfl⟩) fun vu s3 ⟨u, H3, I3, pu, eu, e3⟩ => ?_
  subst eu e3
  refine thn (hst.run pins s3 σ H3 _ I3 q1) fun vs s4 ⟨i, H4, I4, ri, ei, a, xs, ex, hx, q⟩ => ?_
  subst ei ex
  cases r1
  obtain ⟨tk, rfl⟩ : ∃ t, vs = Value.int (-1) t := ri
  cases pl
  cases pu
  have I5 : Inv X pins σ H4 { s4 with heap := s4.heap.push { cls := .type "slice", data := .fields #[Value.none, Value.none, Value.int (-1) tk] } } := I4.kept (t' := s4.toks) fun b ob q => Heap.get?_push_of_some _ q
  obtain ⟨its, r, ht, hz⟩ := I5.tuple hx
  have hlen := r.length
  show wpAny (model X.prog X.w) X.A (subscriptTail e (.Slice none none (some st) p3) (.ref a) (.ref s4.heap.objs.size)) (EP X pins σ Q) X.xe { s4 with heap := s4.heap.push { cls := .type "slice", data := .fields #[Value.none, Value.none, Value.int (-1) tk] } }
  refine tail_any (ops := [.ref a, .ref s4.heap.objs.size]) ht.typeIs (PyProof.Rows.slot_tuple_getitem.lookup) ?_ (by with_unfolding_all rfl)
  refine getItem_tuple_rev ht (Heap.IsSliceOf.new _ _ _ _) (by rw [← hlen]; exact hz) ?_
  have hr := vals_rev r
  refine ⟨.ref _, _, I5.laid (t' := s4.toks) (o := .tup xs.reverse) (fun b ob q => Heap.get?_push_of_some _ q) (Nat.le_refl _) ?_, rfl, q _ (I5.hok.fresh (Nat.le_refl _))⟩
  exact ⟨by rw [List.length_reverse]; exact hz, _, hr, IsTup.new _ _⟩
/-- t[::-1] -/
theorem ev_revT {p3 pos : Pos} {α : Type} {enc : α → PyData} {xs : List α} (h : Ev X A e (.dat (.tuple (xs.map enc)))) (hl : Ev X A st (.dat (.int (-1)))) : Ev X A (.Subscript e (.Slice none none (some st) p3) pos) (.dat (.tuple (xs.reverse.map enc))) := fun I0 H0 σ I H rl Q q =>
  wx_of (pe_revT wx_pe wx_pe) (h I0 H0 σ I H rl _ fun v I1 H1 g1 hv => hl I0 H0 σ I1 H1 (rl.grow g1) _ fun i I2 H2 g2 hi => by
    have hv := dp_mono g2.ii (show Dp X.K I1 v (.tuple (xs.map enc)) from hv)
    obtain ⟨a, vs, rfl, hk, ha⟩ := dp_tup hv
    refine ⟨dp_int hi, a, vs, rfl, same_t g2.ih hk, fun r hr => ?_⟩
    have g4 := Grow.new (o := .tup vs.reverse) g2.ih hr
    refine q _ _ _ ((g1.trans g2).trans g4) (.tup upd_same ?_)
    rw [List.map_reverse]
    exact dpAll_reverse (dpAll_mono g4.ii ha))
theorem dpAll_zip {K : PySem.W.Frag} {I : Hp} {i : Nat} {d : PyData} : ∀ {src src2 : List PyData}, ((src.zip src2).map fun p => PyData.tuple [p.1, p.2])[i]? = some d → ∃ d1 d2, src[i]? = some d1 ∧ src2[i]? = some d2 ∧ d = .tuple [d1, d2] := by
  intro src src2 h
  rw [List.getElem?_map, Option.map_eq_some_iff] at h
  obtain ⟨⟨d1, d2⟩, h1, h2⟩ := h
  rw [List.getElem?_zip_eq_some] at h1
  exact ⟨d1, d2, h1.1, h1.2, h2.symm⟩
theorem walks_zipT {K : PySem.W.Frag} {I1 : Hp} {a b : Addr} {xs ys : List V} {src src2 : List PyData} (hs : SqT K I1 a xs) (hs2 : SqT K I1 b ys) (ha : DpAll K I1 xs src) (hb : DpAll K I1 ys src2) :
    Walks K (ItzT K a b) I1 ((src.zip src2).map fun p => PyData.tuple [p.1, p.2]) := by
  refine ⟨fun i d e I2 H2 s1 s2 => ?_, fun I2 H2 s1 s2 => ⟨xs, ys, same_t (s1.trans s2) hs, same_t (s1.trans s2) hs2, ?_⟩⟩
  · obtain ⟨d1, d2, e1, e2, rfl⟩ := dpAll_zip (K := K) (I := I1) e
    obtain ⟨v1, f1, g1⟩ := dpAll_get ha e1
    obtain ⟨v2, f2, g2⟩ := dpAll_get hb e2
    refine ⟨⟨xs, ys, v1, v2, same_t (s1.trans s2) hs, same_t (s1.trans s2) hs2, f1, f2⟩, ?_⟩
    rintro z H3 ⟨T, x, y, rfl, hT, rfl, hx, hy⟩
    have ex : x = v1 := Option.some.inj ((hx _ (same_t (s1.trans s2) hs)).symm.trans f1)
    have ey : y = v2 := Option.some.inj ((hy _ (same_t (s1.trans s2) hs2)).symm.trans f2)
    subst ex ey
    have g := Grow.new (o := .tup [x, y]) s2 hT
    exact ⟨_, g, .tup upd_same (.cons (dp_mono (s1.trans g.ii) g1) (.cons (dp_mono (s1.trans g.ii) g2) .nil))⟩
  · rw [List.length_map, List.length_zip, dpAll_len ha, dpAll_len hb]
    omega
variable {P : Program} {w : World} {K : PySem.W.Frag} {mg : Str → Option Value} {base : Heap} {N : List Str} {sc : Scope} {k : Nat} {pos p : Pos}
theorem zipTF (hX : XF P w K mg base N sc k X) {e e2 : Expr} {tpos : Pos} {elts : List Expr} {kk} {α β : Type} {enc1 : α → PyData} {enc2 : β → PyData} {xs : List α} {ys : List β} (hg : GlS sc "zip") (hm : mg "zip" = none) (h1 : Ev X A e (.dat (.tuple (xs.map enc1)))) (h2 : Ev X A e2 (.dat (.tuple (ys.map enc2))))
    (hs : starEach (e :: [e2]) X.env = (false, eval e X.env) :: starEach [e2] X.env := by rfl) (hs2 : starEach (e2 :: []) X.env = (false, eval e2 X.env) :: starEach [] X.env := by rfl) (hpl : (backTo pos (starEach [e2] X.env)).any (·.1) = false := by rfl) :
    EvI X A (.Tuple elts kk tpos) (.Call (.Name "zip" p) [e, e2] [] pos) ((xs.zip ys).map fun z => .tuple [enc1 z.1, enc2 z.2]) := by
  have es : ((xs.zip ys).map fun z => PyData.tuple [enc1 z.1, enc2 z.2]) = (((xs.map enc1).zip (ys.map enc2)).map fun p => PyData.tuple [p.1, p.2]) := by
    rw [List.zip_map, List.map_map]
    rfl
  rw [es]
  refine ⟨_, pi_zipA (hX.gl hg) (by rw [hX.eM]; exact hm) wa_pa hs hpl, fun I0 H0 σ I H rl R q => (ea_cons h1 (ea_cons h2 ea_nil hs2) hs) I0 H0 σ I H rl _ fun vs I1 H1 g hv => ?_⟩
  cases hv with
  | cons a1 b1 => cases b1 with
    | cons a2 b2 =>
      cases b2
      obtain ⟨a, us, rfl, k1, r1⟩ := dp_tup a1
      obtain ⟨b, ws, rfl, k2, r2⟩ := dp_tup a2
      exact ⟨a, b, us, ws, rfl, .inr ⟨same_t g.ih k1, same_t g.ih k2, q _ I1 H1 g (walks_zipT k1 k2 r1 r2)⟩⟩
/-- sorted(e, key=f) of encoded data -/
theorem sortF (hX : XF P w K mg base N sc k X) {e : Expr} {j : Nat} {pn y : Str} {R : List PyData → Res → Prop} {α : Type} {enc : α → PyData} {xs : List α} (key : α → Int) (dec : PyData → α) {np kp : Pos} (G : Fn P w K mg base j y [pn] R) (hj : j + 2 ≤ k) (hg : GlS sc "sorted") (hm : mg "sorted" = none) (hgy : GlS sc y) (h : EvS X A e true (xs.map enc))
    (hdec : ∀ x, dec (enc x) = x) (hR : ∀ x ∈ xs, R [enc x] (.ok (.dat (.int (key x))))) (hdb : (y == ("__debug__" : Str)) = false) (he : backTo pos (starEach (e :: []) X.env) = (false, eval e X.env) :: backTo pos (starEach [] X.env) := by rfl) (hpl : (backTo pos (starEach (e :: []) X.env)).any (·.1) = false := by rfl)
    (hall : (backToKw pos (keywordEach [⟨some (Str.ofString "key"), .Name y np, kp⟩] X.env)).all (·.1.isSome) = true := by rfl) (hnone : (backToKw pos (keywordEach [⟨some (Str.ofString "key"), .Name y np, kp⟩] X.env)).any (·.1.isNone) = false := by rfl) (hks : (backToKw pos (keywordEach [⟨some (Str.ofString "key"), .Name y np, kp⟩] X.env)).filterMap (·.1) = [Str.ofString "key"] := by rfl) (hs : starEach (e :: []) X.env = (false, eval e X.env) :: starEach [] X.env := by rfl) :
    Ev X A (.Call (.Name "sorted" p) [e] [⟨some (Str.ofString "key"), .Name y np, kp⟩] pos) (.own (.lst ((xs.mergeSort fun a b => decide (key a ≤ key b)).map enc))) := by
  have q := ev_sortF (key := fun d => key (dec d)) (hX.fnX G) (hX.room.mono hj) (hX.gl hg) (by rw [hX.eM]; exact hm) (hX.gl hgy) h (fun d hd => by
    obtain ⟨x, hx, rfl⟩ := List.mem_map.mp hd
    rw [hdec]
    exact hR x hx) hdb (by decide +kernel) he hpl hall hnone hks hs (p := p)
  rw [← List.map_mergeSort (r := fun a b => decide (key a ≤ key b)) (fun a _ b _ => by rw [hdec, hdec])] at q
  exact q
end
end LR

set_option Elab.async false
set_option linter.all false
set_option maxRecDepth 100000
set_option maxHeartbeats 4000000
/-! The layer LR, part s: zip of lists and tuples in any mix; xs[lo::st] with a reckoned step; [..] that is appended to at once. -/
namespace LR
open PySem PySem.Spec PyProof.Rows L2

/-- a list (true), a tuple (false) of the heap and its iterator -/
def SeqIs (k : Bool) (h : Heap) (a : Addr) (its : Array Value) : Prop := if k then h.IsList a its else h.IsTuple a its
def ItAt (k : Bool) (h : Heap) (it a : Addr) (i : Nat) : Prop := if k then h.IsListIter it a i else h.IsTupleIter it a i
def SqB (K : PySem.W.Frag) (k : Bool) (H : Hp) (a : Addr) (xs : List V) : Prop := if k then SqL K H a xs else SqT K H a xs
def itObj (k : Bool) (a : Addr) : Obj := { cls := .type (if k then "list_iterator" else "tuple_iterator"), data := .fields #[.ref a, .int 0 0] }
theorem sqB_same {K : PySem.W.Frag} {k : Bool} {H H' : Hp} {a : Addr} {xs : List V} (e : Same H H') (h : SqB K k H a xs) : SqB K k H' a xs := by
  cases k with
  | true => exact same_l e h
  | false => exact same_t e h
theorem seqB {X : Cx} {pins : List (Addr × Obj)} {σ : L2.St} {H : Hp} {s : Shared} {k : Bool} {a : Addr} {xs : List V} (I : Inv X pins σ H s) (h : SqB X.K k H a xs) : ∃ its : List Value, Vals xs its ∧ SeqIs k s.heap a its.toArray := by
  cases k with
  | true =>
    obtain ⟨its, r, p, _⟩ := I.list h
    exact ⟨its, r, p.isList⟩
  | false =>
    obtain ⟨its, r, p, _⟩ := I.tuple h
    exact ⟨its, r, p⟩
theorem sqB_inj {X : Cx} {pins : List (Addr × Obj)} {σ : L2.St} {H : Hp} {s : Shared} {k : Bool} {a : Addr} {xs ys : List V} (I : Inv X pins σ H s) (h : SqB X.K k H a xs) (h2 : SqB X.K k H a ys) : xs = ys := by
  cases k with
  | true => exact I.list_inj h h2
  | false => exact I.tuple_inj h h2
theorem drawsB {prog : Program} {w : World} {A : Around} (hh : A.handled = none) (k : Bool) (it a : Addr) (hne : a ≠ it) (its : Array Value) : Draws prog w A it [it, a] its.size (fun i v => its[i]? = some v) (fun i h => ItAt k h it a i ∧ SeqIs k h a its) := by
  cases k with
  | true => exact Draws.list hh it a hne its
  | false => exact Draws.tuple hh it a hne its
theorem itAt_at {k : Bool} {h h' : Heap} {it a : Addr} {i : Nat} (x : ItAt k h it a i) (e : ∀ o, h.get? it = some o → h'.get? it = some o) : ItAt k h' it a i := by
  cases k with
  | true => exact Heap.IsListIter.at x e
  | false => exact Heap.IsTupleIter.at x e
theorem itAt_get {k : Bool} {h : Heap} {it a : Addr} {i : Nat} (x : ItAt k h it a i) : ∃ o, h.get? it = some o ∧ ∀ v, o.data ≠ .cell v := by
  cases k with
  | true =>
    obtain ⟨o, e, _, d⟩ := x
    exact ⟨o, e, fun v z => by rw [d] at z; cases z⟩
  | false =>
    obtain ⟨o, e, _, d⟩ := x
    exact ⟨o, e, fun v z => by rw [d] at z; cases z⟩
theorem seqIs_lt {k : Bool} {h : Heap} {a : Addr} {its : Array Value} (x : SeqIs k h a its) : a < h.objs.size := by
  cases k with
  | true => obtain ⟨o, e, _⟩ := x; exact Heap.lt_size e
  | false => obtain ⟨o, e, _⟩ := x; exact Heap.lt_size e
theorem beginsB (k : Bool) (a : Addr) (its : Array Value) : Begins (.ref a) (itObj k a) fun h => SeqIs k h a its := by
  cases k with
  | true => exact begins_list a its
  | false => exact begins_tuple a its
theorem itObj_at {k : Bool} {h : Heap} {it a : Addr} (e : h.get? it = some (itObj k a)) : ItAt k h it a 0 := by
  cases k with
  | true => exact ⟨_, e, rfl, rfl⟩
  | false => exact ⟨_, e, rfl, rfl⟩
/-- zip of two, turn by turn: the items in new pairs -/
def ItzB (K : PySem.W.Frag) (k1 k2 : Bool) (a b : Addr) : It :=
  ⟨fun i H => ∃ (xs ys : List V) (x y : V), SqB K k1 H a xs ∧ SqB K k2 H b ys ∧ xs[i]? = some x ∧ ys[i]? = some y,
    fun i H v H' => ∃ T x y, v = .ref T ∧ H T = none ∧ H' = upd H T (.tup [x, y]) ∧ (∀ xs, SqB K k1 H a xs → xs[i]? = some x) ∧ ∀ ys, SqB K k2 H b ys → ys[i]? = some y,
    fun i H => ∃ xs ys : List V, SqB K k1 H a xs ∧ SqB K k2 H b ys ∧ i ≤ xs.length ∧ i ≤ ys.length ∧ (i = xs.length ∨ i = ys.length)⟩
theorem turn_zipB {P : Program} {w : World} {K : PySem.W.Frag} {elts : List Expr} {kk : Nat} {tpos : Pos} {k1 k2 : Bool} {a b z TI TO i1 i2 : Addr} (D : ZipApart z TI TO i1 i2 a b) :
    Turn P w K (.Tuple elts kk tpos) (ItzB K k1 k2 a b) [z, TI, TO, i1, i2] z (fun i h => IsZip h z TI TO .none ∧ IsTupOf2 h TI (.ref i1) (.ref i2) ∧ (∃ x y, IsTupOf2 h TO x y) ∧ ItAt k1 h i1 a i ∧ ItAt k2 h i2 b i) where
  mem := by simp
  obj := fun i h st c hc => by
    obtain ⟨hz, hTI, ⟨x, y, hTO⟩, h1, h2⟩ := st
    simp only [List.mem_cons, List.not_mem_nil, or_false] at hc
    rcases hc with rfl | rfl | rfl | rfl | rfl
    · exact ⟨_, hz, fun v q => nomatch q⟩
    · exact ⟨_, hTI, fun v q => nomatch q⟩
    · exact ⟨_, hTO, fun v q => nomatch q⟩
    · exact itAt_get h1
    · exact itAt_get h2
  keep := fun i h h' st k => by
    obtain ⟨hz, hTI, ⟨x, y, hTO⟩, h1, h2⟩ := st
    exact ⟨k z (by simp) _ hz, k TI (by simp) _ hTI, ⟨x, y, k TO (by simp) _ hTO⟩, itAt_at h1 fun o q => k i1 (by simp) o q, itAt_at h2 fun o q => k i2 (by simp) o q⟩
  item := by
    intro X hP hw hK hc i pins s σ H E I hf st hg
    subst hP hw hK
    obtain ⟨hz, hTI, ⟨x0, y0, hTO⟩, h1, h2⟩ := st
    obtain ⟨xs, ys, x, y, hqx, hqy, hx, hy⟩ := hg
    obtain ⟨its, rv, p⟩ := seqB I hqx
    obtain ⟨its2, rv2, p2⟩ := seqB I hqy
    obtain ⟨u, hu, ru⟩ := rv.get hx
    obtain ⟨u2, hu2, ru2⟩ := rv2.get hy
    have hzl : z < s.heap.objs.size := Heap.lt_size hz
    have S : ZipSep2 z TI TO i1 i2 [i1, a] [i2, b] := ⟨D.TIz, D.TOz, D.TITO, D.TIi1, by simp, by simp [D.i1z.symm, D.l1z.symm], by simp [D.TOi1, D.l1TO.symm], D.TIi2, by simp, by simp [D.i2z.symm, D.l2z.symm], by simp [D.TOi2, D.l2TO.symm], by simp [D.i12, D.l2i1.symm], by simp [D.i12.symm, D.l1i2.symm]⟩
    have hh : X.A.in1.handled = none := I.ok.hd hc
    have D1 := drawsB (prog := X.prog) (w := X.w) hh k1 i1 a D.l1i1 its.toArray
    have D2 := drawsB (prog := X.prog) (w := X.w) hh k2 i2 b D.l2i2 its2.toArray
    refine wpAny_pyNext_zipD2_item S D1 D2 hz hTI hTO ⟨h1, p⟩ ⟨h2, p2⟩ (by
      have := (List.getElem?_eq_some_iff.mp hu).1
      simpa using this) (by
      have := (List.getElem?_eq_some_iff.mp hu2).1
      simpa using this) fun x1 x2 h' tk e1 e2 z' TO' s1 s2 hT hsz hk => ?_
    have e1 : x1 = u := by
      have e1 : its[i]? = some x1 := by simpa using e1
      exact Option.some.inj (e1.symm.trans hu)
    have e2 : x2 = u2 := by
      have e2 : its2[i]? = some x2 := by simpa using e2
      exact Option.some.inj (e2.symm.trans hu2)
    subst e1 e2
    refine ⟨_, rfl, wpAny_letOwnedTupleGo_zip (s := { s with heap := h', toks := tk }) z' fun h'' z'' sb => ?_⟩
    have hT2 : h''.get? s.heap.objs.size = some { cls := .type "tuple", data := .seq #[x1, x2] } := (sb.2 _ (Nat.ne_of_gt hzl)).trans hT
    have new : ObjOk X.prog X.w (upd H s.heap.objs.size (.tup [x, y])) h'' s.heap.objs.size (.tup [x, y]) :=
      ⟨by show 2 ≤ sizeLine; decide, [x1, x2], .cons ru (.cons ru2 .nil), ⟨_, hT2, rfl, _, rfl⟩⟩
    have I1 : Inv X pins σ (upd H s.heap.objs.size (.tup [x, y])) { s with heap := h'', toks := tk } :=
      I.turnedNew (t' := tk) (ch := [z, TI, TO, i1, i2]) (fun c o hb q => (sb.2 c (fun q' => hb (by simp [q']))).trans (hk c o (fun q' => hb (by simp [q'])) (fun q' => hb (by simp [q'])) (fun q' => hb (by simp [q'])) (fun q' => hb (by simp [q'])) q)) hf (Nat.le_refl _) new
    refine ⟨.ref s.heap.objs.size, _, I1, rfl, ⟨_, x, y, rfl, I.hok.fresh (Nat.le_refl _), rfl, fun l hl => by rw [sqB_inj I hl hqx]; exact hx, fun l hl => by rw [sqB_inj I hl hqy]; exact hy⟩, ⟨z'', ?_, ⟨x1, x2, ?_⟩, ?_, ?_⟩, fun c hcm => ?_⟩
    · exact (sb.2 _ D.TIz).trans (hk _ _ D.TIz D.TITO D.TIi1 D.TIi2 hTI)
    · exact (sb.2 _ D.TOz).trans TO'
    · exact itAt_at s1.1 fun o q => (sb.2 _ D.i1z).trans q
    · exact itAt_at s2.1 fun o q => (sb.2 _ D.i2z).trans q
    · have hlt : c < s.heap.objs.size := by
        have hcm' := hcm
        simp only [List.mem_cons, List.not_mem_nil, or_false] at hcm'
        rcases hcm' with rfl | rfl | rfl | rfl | rfl
        · exact hzl
        · exact Heap.lt_size hTI
        · exact Heap.lt_size hTO
        · obtain ⟨_, e, _⟩ := itAt_get h1; exact Heap.lt_size e
        · obtain ⟨_, e, _⟩ := itAt_get h2; exact Heap.lt_size e
      rw [upd_ne (Nat.ne_of_lt hlt)]
      exact (hf c hcm).1
  done := by
    intro X hP hw hK hc i pins s σ H E I hf st hg
    subst hP hw hK
    obtain ⟨hz, hTI, ⟨x0, y0, hTO⟩, h1, h2⟩ := st
    obtain ⟨xs, ys, hqx, hqy, l1, l2, l3⟩ := hg
    obtain ⟨its, rv, p⟩ := seqB I hqx
    obtain ⟨its2, rv2, p2⟩ := seqB I hqy
    have e1 := rv.length
    have e2 := rv2.length
    have S : ZipSep2 z TI TO i1 i2 [i1, a] [i2, b] := ⟨D.TIz, D.TOz, D.TITO, D.TIi1, by simp, by simp [D.i1z.symm, D.l1z.symm], by simp [D.TOi1, D.l1TO.symm], D.TIi2, by simp, by simp [D.i2z.symm, D.l2z.symm], by simp [D.TOi2, D.l2TO.symm], by simp [D.i12, D.l2i1.symm], by simp [D.i12.symm, D.l1i2.symm]⟩
    have hh : X.A.in1.handled = none := I.ok.hd hc
    have D1 := drawsB (prog := X.prog) (w := X.w) hh k1 i1 a D.l1i1 its.toArray
    have D2 := drawsB (prog := X.prog) (w := X.w) hh k2 i2 b D.l2i2 its2.toArray
    exact wpAny_pyNext_zipD2_end S D1 D2 hz hTI hTO ⟨h1, p⟩ ⟨h2, p2⟩ (by simp; omega) (by simp; omega) (by simp; omega) fun h' tk hk =>
      ⟨rfl, I.turnedL (t' := tk) (ch := [z, TI, TO, i1, i2]) (fun c o hb q => hk c o (fun q' => hb (by simp [q'])) (fun q' => hb (by simp [q'])) (fun q' => hb (by simp [q'])) (fun q' => hb (by simp [q'])) q) hf⟩
  self := fun A i s Q E st h => wpAny_pyIter_zip st.1 h
def iZipB (K : PySem.W.Frag) (k1 k2 : Bool) (ta : TA) : TI := fun σ H R => ta σ H fun vs H1 => ∃ a b xs ys, vs = [.ref a, .ref b] ∧ SqB K k1 H1 a xs ∧ SqB K k2 H1 b ys ∧ R (ItzB K k1 k2 a b) H1
theorem pi_zipB {X : Cx} {e e2 : Expr} {ta : TA} {p pos tpos : Pos} {elts : List Expr} {kk : Nat} {k1 k2 : Bool} (hg : Gl X "zip") (hm : X.mg "zip" = none) (ha : PA X [e, e2] ta)
    (hs : starEach [e, e2] X.env = (false, eval e X.env) :: starEach [e2] X.env := by rfl) (hpl : (backTo pos (starEach [e2] X.env)).any (·.1) = false := by rfl) :
    PI X (.Tuple elts kk tpos) (.Call (.Name "zip" p) [e, e2] [] pos) (iZipB X.K k1 k2 ta) := by
  refine ⟨fun pins s σ H R I h => ?_⟩
  refine Call_ (ld_blt I hg hm PyProof.Rows.boot_zip (PyProof.Rows.callWith_type1 (thn (ha.run pos pins s σ H _ I h) fun us s1 ⟨vs, H1, I1, r1, q1⟩ => ?_) hs hpl))
  obtain ⟨a, b, xs, ys, rfl, hqx, hqy, q⟩ := q1
  cases r1 with
  | cons r rr =>
    cases rr with
    | cons r' rr =>
      cases rr
      cases r
      cases r'
      obtain ⟨its, rv, p1⟩ := seqB I1 hqx
      obtain ⟨its2, rv2, p2⟩ := seqB I1 hqy
      refine zip_begins2 (beginsB k1 a its.toArray) (beginsB k2 b its2.toArray) p1 p2 fun h' hz hTI hTO g1 g2 hsz hk => wpAny_pyIter_zip hz ?_
      have I2 : Inv X pins σ H1 { s1 with heap := h' } := I1.kept (t' := s1.toks) hk
      refine ⟨s1.heap.objs.size + 4, [s1.heap.objs.size + 4, s1.heap.objs.size + 2, s1.heap.objs.size + 3, s1.heap.objs.size, s1.heap.objs.size + 1], _, _, H1, rfl, I2, turn_zipB (k1 := k1) (k2 := k2) (PySem.W.ktu_apart s1.heap.objs.size a b (seqIs_lt p1) (seqIs_lt p2)), ⟨hz, hTI, ⟨_, _, hTO⟩, itObj_at g1, itObj_at g2⟩, fun c hcm => ?_, q⟩
      have hle : s1.heap.objs.size ≤ c := by
        simp only [List.mem_cons, List.not_mem_nil, or_false] at hcm
        rcases hcm with z | z | z | z | z
        · rw [z]; exact Nat.le_add_right _ _
        · rw [z]; exact Nat.le_add_right _ _
        · rw [z]; exact Nat.le_add_right _ _
        · rw [z]; exact Nat.le_refl _
        · rw [z]; exact Nat.le_add_right _ _
      exact I1.fpOk hle (I1.hok.fresh hle)
theorem walks_zipB {K : PySem.W.Frag} {I1 : Hp} {k1 k2 : Bool} {a b : Addr} {xs ys : List V} {src src2 : List PyData} (hs : SqB K k1 I1 a xs) (hs2 : SqB K k2 I1 b ys) (ha : DpAll K I1 xs src) (hb : DpAll K I1 ys src2) :
    Walks K (ItzB K k1 k2 a b) I1 ((src.zip src2).map fun p => PyData.tuple [p.1, p.2]) := by
  have l1 := dpAll_len ha
  have l2 := dpAll_len hb
  refine ⟨fun i d e I2 H2 s1 s2 => ?_, fun I2 H2 s1 s2 => ⟨xs, ys, sqB_same (s1.trans s2) hs, sqB_same (s1.trans s2) hs2, ?_⟩⟩
  · obtain ⟨d1, d2, e1, e2, rfl⟩ := dpAll_zip (K := K) (I := I1) e
    obtain ⟨v1, f1, g1⟩ := dpAll_get ha e1
    obtain ⟨v2, f2, g2⟩ := dpAll_get hb e2
    refine ⟨⟨xs, ys, v1, v2, sqB_same (s1.trans s2) hs, sqB_same (s1.trans s2) hs2, f1, f2⟩, ?_⟩
    rintro z H3 ⟨T, x, y, rfl, hT, rfl, hx, hy⟩
    have ex : x = v1 := Option.some.inj ((hx _ (sqB_same (s1.trans s2) hs)).symm.trans f1)
    have ey : y = v2 := Option.some.inj ((hy _ (sqB_same (s1.trans s2) hs2)).symm.trans f2)
    subst ex ey
    have g := Grow.new (o := .tup [x, y]) s2 hT
    exact ⟨_, g, .tup upd_same (.cons (dp_mono (s1.trans g.ii) g1) (.cons (dp_mono (s1.trans g.ii) g2) .nil))⟩
  · rw [List.length_map, List.length_zip, ← l1, ← l2]
    omega
section
variable {X : Cx} {A : List C} {P : Program} {w : World} {K : PySem.W.Frag} {mg : Str → Option Value} {base : Heap} {N : List Str} {sc : Scope} {k : Nat} {pos p : Pos}
/-- zip(e, e2): data, the kinds told -/
theorem zipBF (hX : XF P w K mg base N sc k X) {e e2 : Expr} {tpos : Pos} {elts : List Expr} {kk} (k1 k2 : Bool) {α β : Type} {enc1 : α → PyData} {enc2 : β → PyData} {xs : List α} {ys : List β} (hg : GlS sc "zip") (hm : mg "zip" = none) (h1 : Ev X A e (.dat (if k1 then .list (xs.map enc1) else .tuple (xs.map enc1)))) (h2 : Ev X A e2 (.dat (if k2 then .list (ys.map enc2) else .tuple (ys.map enc2))))
    (hs : starEach (e :: [e2]) X.env = (false, eval e X.env) :: starEach [e2] X.env := by rfl) (hs2 : starEach (e2 :: []) X.env = (false, eval e2 X.env) :: starEach [] X.env := by rfl) (hpl : (backTo pos (starEach [e2] X.env)).any (·.1) = false := by rfl) :
    EvI X A (.Tuple elts kk tpos) (.Call (.Name "zip" p) [e, e2] [] pos) ((xs.zip ys).map fun z => .tuple [enc1 z.1, enc2 z.2]) := by
  have es : ((xs.zip ys).map fun z => PyData.tuple [enc1 z.1, enc2 z.2]) = (((xs.map enc1).zip (ys.map enc2)).map fun p => PyData.tuple [p.1, p.2]) := by
    rw [List.zip_map, List.map_map]
    rfl
  rw [es]
  refine ⟨_, pi_zipB (k1 := k1) (k2 := k2) (hX.gl hg) (by rw [hX.eM]; exact hm) wa_pa hs hpl, fun I0 H0 σ I H rl R q => (ea_cons h1 (ea_cons h2 ea_nil hs2) hs) I0 H0 σ I H rl _ fun vs I1 H1 g hv => ?_⟩
  have both : ∀ {k : Bool} {v : V} {ds : List PyData}, Dp X.K I1 v (if k then .list ds else .tuple ds) → ∃ a xs, v = .ref a ∧ SqB X.K k I1 a xs ∧ DpAll X.K I1 xs ds := by
    intro k v ds h
    cases k with
    | true => exact dp_lst h
    | false => exact dp_tup h
  cases hv with
  | cons a1 b1 => cases b1 with
    | cons a2 b2 =>
      cases b2
      obtain ⟨a, us, rfl, k1', r1⟩ := both a1
      obtain ⟨b, ws, rfl, k2', r2⟩ := both a2
      exact ⟨a, b, us, ws, rfl, sqB_same g.ih k1', sqB_same g.ih k2', q _ I1 H1 g (walks_zipB k1' k2' r1 r2)⟩
/-- for x, y in ..: the state ahead of turn i is inv i -/
theorem forZ (hX : XF P w K mg base N sc k X) {α : Type} {body : List Stmt} {e : Expr} {x y : Str} {px py tpos : Pos} {kk} {src : List PyData} (i j : Nat) (xs : List α) (enc1 enc2 : α → PyData) (inv : Nat → List C) (hi : EvI X A (.Tuple [.Name x px, .Name y py] kk tpos) e src) (hsrc : src = xs.map fun z => .tuple [enc1 z, enc2 z])
    (g1 : PG X (.Name x px) (gName i)) (g2 : PG X (.Name y py) (gName j)) (h0 : LeA A (inv 0)) (hi2 : ∀ n, (inv n)[i]?.isSome = true) (hj2 : ∀ n, (inv n)[j]?.isSome = true)
    (hb : ∀ (n : Nat) (hn : n < xs.length), Sm X (((inv n).set i (.dat (enc1 xs[n]))).set j (.dat (enc2 xs[n]))) body (.nx (inv (n + 1)))) (hs : ∀ x, foldedSetIterable e X.env x = pure x := by intro _; rfl) : S1 X A (.For (.Tuple [.Name x px, .Name y py] kk tpos) e body [] pos) (.nx (inv xs.length)) := by
  subst hsrc
  refine s1_for (g := gTup X.K [i, j].length (gNames [i, j])) (U := uTup [i, j]) hX.pass hX.calm hi (pg_tup (es := [.Name x px, .Name y py]) hX.calm (pgs_cons (e := .Name x px) (es := [.Name y py]) g1 (pgs_cons (e := .Name y py) (es := []) g2 pgs_nil))) tg_tup inv xs.length (by simp) h0 (fun n d hn hd => ?_) (.inl ⟨by simp, rfl⟩) hs
  rw [List.getElem?_map, List.getElem?_eq_getElem hn] at hd
  cases hd
  refine ⟨_, ⟨_, rfl, _, _, rfl, hi2 n, _, _, rfl, ?_, rfl, rfl⟩, hb n hn⟩
  have := hj2 n
  by_cases hij : i = j
  · subst hij
    rw [List.getElem?_set_self (lt_of_some this)]; rfl
  · rw [List.getElem?_set_ne hij]; exact this
/-! xs[lo::st], the step reckoned -/
def tStV (K : PySem.W.Frag) (te tl ts : TE) (c : Int) : TE := fun σ H Q => te σ H fun x H1 => tPart tl σ H1 fun o H2 => tPart ts σ H2 fun o2 H3 => o2 = some c ∧ ∃ a xs, x = .ref a ∧ SqL K H3 a xs ∧ ∀ p, H3 p = none → Q (.ref p) (upd H3 p (.lst (cutS xs o none (some c))))
theorem pe_stepV {e lo st : Expr} {te tl ts : TE} {c : Int} {p3 : Pos} (h0 : c ≠ 0) (he : PE X e te) (hl : PE X lo tl) (hst : PE X st ts) : PE X (.Subscript e (.Slice (some lo) none (some st) p3) pos) (tStV X.K te tl ts c) := by
  refine ⟨fun pins s σ H Q I h => ?_⟩
  refine Subscript_ (thn (he.run pins s σ H _ I h) fun v s1 ⟨x, H1, I1, r1, q1⟩ => ?_)
  refine wpAny_Slice (thn ((po_some hl).run pins s1 σ H1 _ I1 q1) fun vl s2 ⟨l, H2, I2, pl, q2⟩ => ?_)
  refine thn (po_none.run pins s2 σ H2 (fun o H3 => o = none ∧ H3 = H2) I2 ⟨rfl, rfl⟩) fun vu s3 ⟨u, H3, I3, pu, eu, e3⟩ => ?_
  subst eu e3
  refine thn ((po_some hst).run pins s3 σ H3 _ I3 q2) fun vs s4 ⟨o, H4, I4, ps, eo, a, xs, ex, hx, q⟩ => ?_
  subst eo ex
  cases r1
  have I5 : Inv X pins σ H4 { s4 with heap := s4.heap.push { cls := .type "slice", data := .fields #[vl, vu, vs] } } := I4.kept (t' := s4.toks) fun b ob q => Heap.get?_push_of_some _ q
  obtain ⟨its, r, ht, hz⟩ := I5.list hx
  have hlen := r.length
  show wpAny (model X.prog X.w) X.A (subscriptTail e (.Slice (some lo) none (some st) p3) (.ref a) (.ref s4.heap.objs.size)) (EP X pins σ Q) X.xe { s4 with heap := s4.heap.push { cls := .type "slice", data := .fields #[vl, vu, vs] } }
  refine tail_any (ops := [.ref a, .ref s4.heap.objs.size]) ht.isList.typeIs (PySem.slot_list_getitem.lookup) ?_ (by with_unfolding_all rfl)
  refine wpAny_getItem_list_slice ht.isList (Heap.IsSliceOf.new _ vl vu vs) pl pu ps (fun z => h0 (by cases z; rfl)) ?_ (by rw [List.size_toArray]; omega)
  have hsz := slicePick_size_le its.toArray l none (some c)
  rw [cutS_pick] at hsz ⊢
  rw [List.size_toArray, List.size_toArray] at hsz
  have hr : Vals (cutS xs l none (some c)) (cutS its l none (some c)) := by
    unfold cutS
    rw [hlen]
    exact pick_rel r _
  refine ⟨.ref _, _, I5.laid (t' := s4.toks) (o := .lst (cutS xs l none (some c))) (fun b ob q => Heap.get?_push_of_some _ q) (Nat.le_refl _) ?_, rfl, q _ (I5.hok.fresh (Nat.le_refl _))⟩
  exact ⟨by rw [hr.length]; omega, _, 0, hr, Heap.get?_push_size _ rfl⟩
theorem ev_stepV {e lo st : Expr} {l c : Int} {p3 : Pos} {ds : List PyData} (h : EvS X A e true ds) (hl : Ev X A lo (.dat (.int l))) (hc : Ev X A st (.dat (.int c))) (h0 : c ≠ 0) : Ev X A (.Subscript e (.Slice (some lo) none (some st) p3) pos) (.own (.lst (cutS ds (some l) none (some c)))) := fun I0 H0 σ I H rl Q q =>
  wx_of (pe_stepV h0 wx_pe wx_pe wx_pe) (h I0 H0 σ I H rl _ fun p vs I1 H1 g1 hk ha => hl I0 H0 σ I1 H1 (rl.grow g1) _ fun i I2 H2 g2 hi =>
    ⟨l, dp_int hi, hc I0 H0 σ I2 H2 ((rl.grow g1).grow g2) _ fun i2 I3 H3 g3 hi2 => ⟨c, dp_int hi2, rfl, p, vs, rfl, same_l (g2.trans g3).hh hk, fun r hr => by
      have g := (g1.trans g2).trans g3
      have g4 := Grow.newH (o := .lst (cutS vs (some l) none (some c))) g3.ih hr
      refine q _ _ _ (g.trans g4) ⟨r, _, rfl, g.hh.free hr, g3.ih.free hr, upd_same, ?_⟩
      have hd := dpAll_mono (g2.trans g3).ii ha
      show DpAll X.K I3 (cutS vs _ _ _) (cutS ds _ _ _)
      unfold cutS
      rw [dpAll_len hd]
      exact pick_dp hd _⟩⟩)
/-- e.count(k) -/
theorem ev_count {e e2 : Expr} {ns : List Int} {c : Int} {p2 p3 : Pos} (h1 : EvS X A e true (ns.map .int)) (h2 : Ev X A e2 (.dat (.int c))) (hbase : attributeBase e "count" X.env (eval e X.env) = eval e X.env := by rfl) (hs : starEach (e2 :: []) X.env = (false, eval e2 X.env) :: starEach [] X.env := by rfl)
    (hpl : ((backTo p3 (starEach (e2 :: []) X.env)).all (fun x => !x.1) && (backToKw p3 (keywordEach [] X.env)).all (fun x => x.1.isSome) && decide (([e2] : List Expr).length + ([] : List Keyword).length + (if ([] : List Keyword).isEmpty then 0 else 1) < 30)) = true := by rfl) (hline : (p2.endLine == p3.line) = true := by rfl) :
    Ev X A (.Call (.Attribute e "count" p2) [e2] [] p3) (.dat (.int (ns.count c : Nat))) := fun I0 H0 σ I H rl Q q =>
  wx_of (pe_bm PySem.F.plainAttrs_list PySem.F.slot_list_count PySem.F.type_list_count mt_lcount wx_pe (pa_cons wx_pe pa_nil hs) (hbase := hbase) (hfew := hpl) (hline := hline) (hs := hs) (hplain := rfl)) (h1 I0 H0 σ I H rl _ fun a vs I1 H1 g1 hk ha => ⟨.inl ⟨rfl, _, hk⟩, h2 I0 H0 σ I1 H1 (rl.grow g1) _ fun v I2 H2 g2 hv => by
    have hv := dp_int hv
    subst hv
    refine ⟨a, ns, c, rfl, rfl, ?_, q _ I2 H2 (g1.trans g2) (.int _)⟩
    have := ints_of ha
    subst this
    exact same_l g2.hh hk⟩)
/-- e.append(d), e a list of its own -/
theorem s1_appE {e e2 : Expr} {ds : List PyData} {d : PyData} {p2 p3 p4 : Pos} (h1 : Ev X A e (.own (.lst ds))) (h2 : Ev X A e2 (.dat d)) (hz : ds.length < sizeLine) (hbase : attributeBase e "append" X.env (eval e X.env) = eval e X.env := by rfl) (hs : starEach (e2 :: []) X.env = (false, eval e2 X.env) :: starEach [] X.env := by rfl)
    (hpl : ((backTo p3 (starEach (e2 :: []) X.env)).all (fun x => !x.1) && (backToKw p3 (keywordEach [] X.env)).all (fun x => x.1.isSome) && decide (([e2] : List Expr).length + ([] : List Keyword).length + (if ([] : List Keyword).isEmpty then 0 else 1) < 30)) = true := by rfl) (hline : (p2.endLine == p3.line) = true := by rfl)
    (hsw : swapsWith (.Call (.Attribute e "append" p2) [e2] [] p3) none p4.line X.env = pure false := by rfl) : S1 X A (.Expr (.Call (.Attribute e "append" p2) [e2] [] p3) p4) (.nx A) := fun I0 H0 σ I H rl D f =>
  ws_of (ps_expr (pe_bm PySem.F.plainAttrs_list PySem.F.slot_list_append PySem.F.type_list_append mt_append wx_pe (pa_cons wx_pe pa_nil hs) (hbase := hbase) (hfew := hpl) (hline := hline) (hs := hs) (hplain := rfl)) hsw) (h1 I0 H0 σ I H rl _ fun v I1 H1 g1 hv => by
    obtain ⟨a, o, rfl, n0, n1, ho, hb⟩ := hv
    obtain ⟨vs, rfl, ha⟩ := obAt_lst hb
    refine ⟨.inl ⟨rfl, _, .inl (.inl ho)⟩, h2 I0 H0 σ I1 H1 (rl.grow g1) _ fun u I2 H2 g2 hu => ⟨a, vs, u, rfl, rfl, g2.hh _ _ ho, by rw [dpAll_len ha]; exact hz, ?_⟩⟩
    have g := (g1.trans g2).mut (o := .lst (vs ++ [u])) n0 (g2.nw a _ ho n1)
    exact f σ I2 _ g.ii (rl.grow g))
/-- name = [.. for x, y in ..] -/
theorem setLcZ (hX : XF P w K mg base N sc k X) {α : Type} {elt iter : Expr} {scope : Scope} {src : List PyData} {x y z : Str} {px p3 p4 pz spos : Pos} {kk} (l i j : Nat) (xs : List α) (enc1 enc2 : α → PyData) (f : α → PyData) (hi : EvI X A (.Tuple [.Name x px, .Name y p3] kk p4) iter src) (hsrc : src = xs.map fun z => .tuple [enc1 z, enc2 z]) (ok : blkC N sc scope [(x, i), (y, j)] = true)
    (hNi : N[i]? = some x) (hNj : N[j]? = some y) (hx : (relS scope sc).names.lookup x = some .local) (hy : (relS scope sc).names.lookup y = some .local) (hij : i ≠ j) (hz : xs.length < sizeLine) (hi' : A[i]?.isSome = true) (hj : A[j]?.isSome = true)
    (hb : ∀ Y, XF P w K mg base N (relS scope sc) k Y → ∀ z ∈ xs, Ev Y ((((A.set j .un).set i .un).set i (.dat (enc1 z))).set j (.dat (enc2 z))) elt (.dat (f z)))
    (hzN : N[l]? = some z) (hzl : sc.names.lookup z = some .local) (hzj : A[l]?.isSome = true) (hk : sc.kind = .function) (hl : (pz.line == pos.line) = true) (ha : (scope.names.any fun (n, k) => n == z && (k == .local || k == .cell)) = false)
    (hs : ∀ x, foldedSetIterable iter X.env x = pure x := by intro _; rfl) : S1 X A (.Assign [.Name z pz] (.ListComp elt [⟨.Tuple [.Name x px, .Name y p3] kk p4, iter, [], 0⟩] scope pos) spos) (.nx (A.set l (.own (.lst (xs.map f))))) := by
  have l1 := lt_of_some hi'
  have l2 := lt_of_some hj
  have q := s1_setLc (own := [(x, i), (y, j)]) (g := gTup X.K [i, j].length (gNames [i, j])) (U := uTup [i, j]) (A := A) (elt := elt) (ifs := []) (pos := pos) (spos := spos) (py := pz) xs (fun z => .tuple [enc1 z, enc2 z]) (fun _ => true) f hX.calm hX.ndX hi hsrc (by rw [hX.eN, hX.eS]; exact blkOk_by ok)
    (fun s H C cl fp => pg_tup (es := [.Name x px, .Name y p3]) hX.calm (pgs_cons (e := .Name x px) (es := [.Name y p3]) (tgB hX.blk i hNi hx) (pgs_cons (e := .Name y p3) (es := []) (tgB hX.blk j hNj hy) pgs_nil))) tg_tup (tgw_two hij) (Nat.zero_le _) hz
    (fun z hz => ⟨_, ⟨_, rfl, _, _, rfl, by
      show ((((A.set j .un).set i .un))[i]?).isSome = true
      rw [List.getElem?_set_self (by simpa using l1)]; rfl, _, _, rfl, by
      show (((((A.set j .un).set i .un)).set i _)[j]?).isSome = true
      rw [List.getElem?_set_ne hij, List.getElem?_set_ne hij, List.getElem?_set_self l2]; rfl, rfl, rfl⟩, rfl, fun h s H C cl fp => hb _ hX.blk z hz⟩) hs (i := l) (y := z) (by rw [hX.eN]; exact hzN) (by rw [hX.eS]; exact hzl) (sw_true (by rw [hX.eS]; exact hk) (by rw [hX.eS]; exact hzl) hl ha) hzj
  rw [List.filter_eq_self.mpr fun _ _ => rfl] at q
  exact q
/-! xs[::-1] of a list -/
theorem cutS_rev {α : Type} (xs : List α) : cutS xs none none (some (-1)) = xs.reverse := by
  have eb : sliceBounds none none (some (-1)) xs.length = ((xs.length : Int) - 1, -1, -1) := rfl
  unfold cutS
  rw [eb]
  have er : sliceRange ((xs.length : Int) - 1) (-1) (-1) = (List.range xs.length).map fun k : Nat => (((xs.length : Int) - 1) + (-1) * (k : Int)).toNat := by
    unfold sliceRange
    have ec : (if (-1 : Int) > 0 then (if (xs.length : Int) - 1 < -1 then (-1 - ((xs.length : Int) - 1) + (-1) - 1) / (-1) else 0) else (if (xs.length : Int) - 1 > -1 then ((xs.length : Int) - 1 - (-1) - (-1) - 1) / (-(-1)) else 0)).toNat = xs.length := by
      rw [if_neg (by omega)]
      split
      · simp
      · omega
    simp only [ec]
  show ((sliceRange ((xs.length : Int) - 1) (-1) (-1)).filterMap (xs[·]?)) = _
  rw [er, List.filterMap_map, ← rev_pick xs]
  refine fm_congr fun k _ => ?_
  show xs[(((xs.length : Int) - 1) + (-1) * (k : Int)).toNat]? = xs[(((xs.length : Int) - 1) + (k : Int) * (-1)).toNat]?
  congr 1
  omega
def tRevL (K : PySem.W.Frag) (te ts : TE) : TE := fun σ H Q => te σ H fun x H1 => tPart ts σ H1 fun o H2 => o = some (-1) ∧ ∃ a xs, x = .ref a ∧ SqL K H2 a xs ∧ ∀ p, H2 p = none → Q (.ref p) (upd H2 p (.lst xs.reverse))
theorem pe_revL {e st : Expr} {te ts : TE} {p3 : Pos} (he : PE X e te) (hst : PE X st ts) : PE X (.Subscript e (.Slice none none (some st) p3) pos) (tRevL X.K te ts) := by
  refine ⟨fun pins s σ H Q I h => ?_⟩
  refine Subscript_ (thn (he.run pins s σ H _ I h) fun v s1 ⟨x, H1, I1, r1, q1⟩ => ?_)
  refine wpAny_Slice (thn (po_none.run pins s1 σ H1 (fun o H3 => o = none ∧ H3 = H1) I1 ⟨rfl, rfl⟩) fun vl s2 ⟨l, H2, I2, pl, el, e2⟩ => ?_)
  subst el e2
  refine thn (po_none.run pins s2 σ H2 (fun o H3 => o = none ∧ H3 = H2) I2 ⟨rfl, rfl⟩) fun vu s3 ⟨u, H3, I3, pu, eu, e3⟩ => ?_
  subst eu e3
  refine thn ((po_some hst).run pins s3 σ H3 _ I3 q1) fun vs s4 ⟨o, H4, I4, ps, eo, a, xs, ex, hx, q⟩ => ?_
  subst eo ex
  cases r1
  have I5 : Inv X pins σ H4 { s4 with heap := s4.heap.push { cls := .type "slice", data := .fields #[vl, vu, vs] } } := I4.kept (t' := s4.toks) fun b ob q => Heap.get?_push_of_some _ q
  obtain ⟨its, r, ht, hz⟩ := I5.list hx
  have hlen := r.length
  show wpAny (model X.prog X.w) X.A (subscriptTail e (.Slice none none (some st) p3) (.ref a) (.ref s4.heap.objs.size)) (EP X pins σ Q) X.xe { s4 with heap := s4.heap.push { cls := .type "slice", data := .fields #[vl, vu, vs] } }
  refine tail_any (ops := [.ref a, .ref s4.heap.objs.size]) ht.isList.typeIs (PySem.slot_list_getitem.lookup) ?_ (by with_unfolding_all rfl)
  refine wpAny_getItem_list_slice ht.isList (Heap.IsSliceOf.new _ vl vu vs) pl pu ps (fun z => by cases z) ?_ (by rw [List.size_toArray]; omega)
  rw [cutS_pick, cutS_rev]
  have hr := vals_rev r
  refine ⟨.ref _, _, I5.laid (t' := s4.toks) (o := .lst xs.reverse) (fun b ob q => Heap.get?_push_of_some _ q) (Nat.le_refl _) ?_, rfl, q _ (I5.hok.fresh (Nat.le_refl _))⟩
  exact ⟨by rw [List.length_reverse]; exact hz, _, 0, hr, Heap.get?_push_size _ rfl⟩
theorem ev_revL {e st : Expr} {p3 : Pos} {α : Type} {enc : α → PyData} {xs : List α} (h : EvS X A e true (xs.map enc)) (hc : Ev X A st (.dat (.int (-1)))) : Ev X A (.Subscript e (.Slice none none (some st) p3) pos) (.own (.lst (xs.reverse.map enc))) := fun I0 H0 σ I H rl Q q =>
  wx_of (pe_revL wx_pe wx_pe) (h I0 H0 σ I H rl _ fun p vs I1 H1 g1 hk ha => hc I0 H0 σ I1 H1 (rl.grow g1) _ fun i2 I3 H3 g3 hi2 => ⟨-1, dp_int hi2, rfl, p, vs, rfl, same_l g3.hh hk, fun r hr => by
      have g := g1.trans g3
      have g4 := Grow.newH (o := .lst vs.reverse) g3.ih hr
      refine q _ _ _ (g.trans g4) ⟨r, _, rfl, g.hh.free hr, g3.ih.free hr, upd_same, ?_⟩
      show DpAll X.K I3 vs.reverse _
      rw [List.map_reverse]
      exact dpAll_reverse (dpAll_mono g3.ii ha)⟩)
/-! xs + ys of lists that are read -/
def rCatQ (K : PySem.W.Frag) : R2 := fun x y H Q => ∃ l b xs zs, x = .ref l ∧ y = .ref b ∧ SqL K H l xs ∧ SqL K H b zs ∧ xs.length + zs.length ≤ sizeLine ∧ ∀ p, H p = none → Q (.ref p) (upd H p (.lst (xs ++ zs)))
theorem op_catQ : OpR X (binaryOp .Add) (rCatQ X.K) := by
  intro pins s σ H x y v u Q I rx ry h
  obtain ⟨l, b, xs, zs, rfl, rfl, hH, hB, hz, q⟩ := h
  cases rx
  cases ry
  obtain ⟨its, r, ⟨⟨cls, dd, data, sl⟩, n, ho, hc, hdn, hd⟩, hl⟩ := I.list hH
  obtain ⟨its2, r2, ⟨⟨cls2, dd2, data2, sl2⟩, n2, ho2, hc2, hdn2, hd2⟩, hl2⟩ := I.list hB
  simp only at hc hd hc2 hd2
  subst hc hd hc2 hd2
  have e1 := r.length
  have e2 := r2.length
  refine concat_meets ⟨_, ho, rfl⟩ ⟨_, ho2, rfl⟩ PySem.noFill_list_add PySem.seq_list_add PySem.F.slot_list_add PySem.F.entry_list_add (PySem.F.args_list_add_2 _ _) (PyProof.Rows.list_addW l b its.toArray its2.toArray n n2 dd dd2 sl sl2 (by rw [List.size_toArray, List.size_toArray]; omega)) ⟨ho, ho2, ?_⟩
  have ea : its.toArray ++ its2.toArray = (its ++ its2).toArray := by simp
  rw [ea]
  exact ⟨.ref _, _, I.lnew (t' := s.toks) (r.append r2) (by rw [List.length_append]; omega), rfl, q _ I.fresh⟩
theorem ev_catS {a b : Expr} {ds es : List PyData} (h1 : EvS X A a true ds) (h2 : EvS X A b true es) (hz : ds.length + es.length ≤ sizeLine) : Ev X A (.BinOp a .Add b pos) (.own (.lst (ds ++ es))) := fun I0 H0 σ I H rl Q q =>
  wx_of (pe_op op_catQ wx_pe wx_pe) (h1 I0 H0 σ I H rl _ fun p xs I1 H1 g1 hp ha => h2 I0 H0 σ I1 H1 (rl.grow g1) _ fun p2 ys I2 H2 g2 hp2 hb =>
    ⟨p, p2, xs, ys, rfl, rfl, same_l g2.hh hp, hp2, by rw [dpAll_len ha, dpAll_len hb]; exact hz, fun l hl => by
      have g3 := Grow.newH (o := .lst (xs ++ ys)) g2.ih hl
      exact q _ _ _ ((g1.trans g2).trans g3) ⟨l, _, rfl, (g1.trans g2).hh.free hl, g2.ih.free hl, upd_same, dpAll_append (dpAll_mono g2.ii ha) hb⟩⟩)
end
end LR

set_option Elab.async false
set_option linter.all false
set_option maxRecDepth 100000
set_option maxHeartbeats 4000000
/-! The layer LR, part t: a def called with an own list that stays an own list. -/
namespace LR
open PySem PySem.Spec PyProof.Rows L2

mutual
/-- no list within -/
def noL : PyData → Bool
  | .list _ => false
  | .tuple xs => noLs xs
  | .dict _ => false
  | _ => true
def noLs : List PyData → Bool
  | [] => true
  | x :: r => noL x && noLs r
end
def forget (I : Hp) (p : Addr) : Hp := fun b => if b = p then none else I b
section
variable {K : PySem.W.Frag}
mutual
theorem dp_forget {I : Hp} {p : Addr} {us : List V} (hp : I p = some (.lst us)) : ∀ {v : V} {d : PyData}, Dp K I v d → noL d = true → Dp K (forget I p) v d
  | _, _, .non, _ => .non
  | _, _, .bl b, _ => .bl b
  | _, _, .int i, _ => .int i
  | _, _, .str x, _ => .str x
  | _, _, .lst h a, n => by simp [noL] at n
  | _, _, .dic h, n => by simp [noL] at n
  | _, _, .tup h a, n => by
    simp only [noL] at n
    have keep : ∀ b o, I b = some o → (∀ us, o ≠ .lst us) → forget I p b = some o := fun b o e ho => by
      unfold forget
      rw [if_neg]
      · exact e
      · rintro rfl
        rw [hp] at e
        exact ho us (Option.some.inj e).symm
    exact .tup (keep _ _ h fun _ z => by cases z) (dpAll_forget hp a n)
theorem dpAll_forget {I : Hp} {p : Addr} {us : List V} (hp : I p = some (.lst us)) : ∀ {vs : List V} {ds : List PyData}, DpAll K I vs ds → noLs ds = true → DpAll K (forget I p) vs ds
  | _, _, .nil, _ => .nil
  | _, _, .cons h t, n => by
    simp only [noLs, Bool.and_eq_true] at n
    exact .cons (dp_forget hp h n.1) (dpAll_forget hp t n.2)
end
end
section
variable {X : Cx} {A : List C} {pos p p2 : Pos} {x y : Str}
/-- f(xs), xs an own list that is read alone; the result is a new list without lists in it -/
theorem ev_callOwn {k : Nat} {ps : List Str} {R : List PyData → Res → Prop} {ds es : List PyData} (j : Nat) (G : Fn X.prog X.w X.K X.mg X.base k x ps R) (hr : Room k X.A) (hg : Gl X x) (hN : X.N[j]? = some y) (hA : A[j]? = some (.own (.lst ds))) (hv : Vis X.env.scope y) (h : R [.list ds] (.ok (.own (.lst es)))) (hn : noLs es = true)
    (hd : (y == ("__debug__" : Str)) = false) (hcd : (y == ("__classdict__" : Str)) = false) (hdb : (x == ("__debug__" : Str)) = false)
    (he : starEach (.Name y p2 :: []) X.env = (false, eval (.Name y p2) X.env) :: starEach [] X.env := by rfl) (hpl : (backTo pos (starEach [] X.env)).any (·.1) = false := by rfl) : Ev X A (.Call (.Name x p) [.Name y p2] [] pos) (.own (.lst es)) := fun I0 H0 σ I H rl Q q => by
  obtain ⟨f, fd, F, hm, hk, hb, _⟩ := G.ex
  obtain ⟨a, o, e1, n0, n, ho, hob⟩ := rl.cell j _ hA
  obtain ⟨vs, rfl, ha⟩ := obAt_lst hob
  have s1 : Same I (upd I a (.lst vs)) := fun b u e => by rw [upd_ne (ne_of_none e n)]; exact e
  refine wx_of (pe_call F hr hg hm hk hb .nil passL (pa_cons (pe_var hN hv hd hcd) pa_nil he) hdb he hpl) ⟨.ref a, e1, ?_⟩
  show Spec X.K X.mg R ([.ref a] ++ []) H Q E0
  refine ⟨upd I a (.lst vs), [.list ds], .ok (.own (.lst es)), fun b u e => ?_, .cons (.lst (.inl (.inl upd_same)) (dpAll_mono s1 ha)) .nil, h, fun v I2 H2 g hv2 => ?_⟩
  · by_cases hb2 : b = a
    · subst hb2; rw [upd_same] at e; rw [← e]; exact ho
    · rw [upd_ne hb2] at e; exact rl.ih b u e
  · have h2 : I2 a = some (.lst vs) := g.ii a _ upd_same
    obtain ⟨c, o2, rfl, m0, m1, m2, hob2⟩ := hv2
    obtain ⟨us, rfl, hus⟩ := obAt_lst hob2
    have fne : ∀ b, b ≠ a → forget I2 a b = I2 b := fun b hb2 => if_neg hb2
    have fa : forget I2 a a = none := if_pos rfl
    refine q _ (forget I2 a) H2 ⟨fun b u e => ?_, g.hh, fun b u e => ?_, fun b u e1 e2 => ?_⟩ ⟨c, _, rfl, m0, ?_, m2, dpAll_forget h2 hus hn⟩
    · have hb2 : b ≠ a := ne_of_none e n
      rw [fne b hb2]
      exact g.ii b u (by rw [upd_ne hb2]; exact e)
    · by_cases hb2 : b = a
      · subst hb2; rw [fa] at e; cases e
      · rw [fne b hb2] at e; exact g.ih b u e
    · by_cases hb2 : b = a
      · subst hb2; exact fa
      · rw [fne b hb2]
        exact g.nw b u e1 (by rw [upd_ne hb2]; exact e2)
    · by_cases hb2 : c = a
      · subst hb2; exact fa
      · rw [fne c hb2]; exact m1
end
end LR

set_option Elab.async false
set_option linter.all false
set_option maxRecDepth 100000
set_option maxHeartbeats 4000000
/-! The layer LR, part u: sum of a tuple. -/
namespace LR
open PySem PySem.Spec PyProof.Rows L2
section
variable {P : Program} {w : World} {K : PySem.W.Frag} {mg : Str → Option Value} {base : Heap} {N : List Str} {sc : Scope} {k : Nat} {X : Cx} {A : List C} {pos p : Pos} {x : Str}
theorem sumT_raw {A : Around} {E : Value → Shared → Prop} {s : Shared} {t : Addr} {its : List Value} {ns : List Int} {Q : Value → Shared → Prop} (hh : A.handled = none) (hl : s.heap.IsTuple t its.toArray) (hi : IntsAre its ns)
    (h : ∀ h' tk t', (∀ b o, s.heap.get? b = some o → h'.get? b = some o) → Q (.int ns.sum t') { s with heap := h', toks := tk }) : wpAny (model P w) A (call (.builtin "sum") [.ref t]) Q E s := by
  obtain ⟨xs, e⟩ := hi.allInts.items
  have hn : numsOf (intItems xs).toList = ns := by rw [← e]; exact hi.numsOf
  rw [nums_intItems] at hn
  rw [e] at hl
  refine PySem.W.ktm_sumG hh hl fun h' tk t' hk => ?_
  have := h h' tk t' hk
  rw [preSum_eq, List.take_of_length_le (by simp), hn]; exact this
def rSumT (K : PySem.W.Frag) : List V → Hp → VK → Prop := fun vs H Q => ∃ (a : Addr) (ns : List Int), vs = [V.ref a] ∧ SqT K H a (ns.map V.int) ∧ Q (.int ns.sum) H
theorem cr_sumT (hc : X.calm = true) : CallR X (.builtin "sum") (rSumT X.K) := by
  intro pins s σ H vs us Q I r h
  obtain ⟨a, ns, rfl, hs, q⟩ := h
  obtain ⟨its, rv, hl, _⟩ := I.tuple hs
  rw [Vals.ref1 r]
  exact sumT_raw (I.ok.hd hc) hl rv.ints fun h' tk t' hk => ⟨.int _, H, I.kept hk, ⟨_, rfl⟩, q⟩
/-- sum(xs) of a tuple of whole numbers -/
theorem sumTF (hX : XF P w K mg base N sc k X) {e : Expr} {ns : List Int} (hg : GlS sc "sum") (hm : mg "sum" = none) (h : Ev X A e (.dat (.tuple (ns.map .int)))) (hb : bootBuiltins "sum" = some (.builtin "sum") := by decide +kernel) (hs : starEach (e :: []) X.env = (false, eval e X.env) :: starEach [] X.env := by rfl) :
    Ev X A (.Call (.Name "sum" p) [e] [] pos) (.dat (.int ns.sum)) := fun I0 H0 σ I H rl Q q =>
  wx_of (pe_callB (cr_sumT hX.calm) (hX.gl hg) (by rw [hX.eM]; exact hm) hb (pa_cons wx_pe pa_nil hs) (by decide) (by decide) hs rfl) (h I0 H0 σ I H rl _ fun v I1 H1 g hv => by
    obtain ⟨a, vs, rfl, hk, ha⟩ := dp_tup (show Dp X.K I1 v (.tuple _) from hv)
    exact ⟨a, ns, rfl, by rw [← ints_of ha]; exact same_t g.ih hk, q _ I1 H1 g (Dp.int _)⟩)
end
end LR

set_option Elab.async false
set_option linter.all false
set_option maxRecDepth 100000
set_option maxHeartbeats 4000000
/-! The layer LR, part v: the def's own dicts: {}, d[k] = v, k in d, d[k], sorted(d). -/
namespace LR
open PySem PySem.Spec PyProof.Rows L2
section
variable {κ β : Type} [DecidableEq κ]
/-- in its place, or at the end -/
def putE (es : List (κ × β)) (k : κ) (d : β) : List (κ × β) := if (es.any fun e => decide (e.1 = k)) = true then es.map (fun e => if e.1 = k then (e.1, d) else e) else es ++ [(k, d)]
def valE (es : List (κ × β)) (k : κ) : Option β := (es.find? fun e => decide (e.1 = k)).map (·.2)
theorem any_keys {γ : Type} : ∀ {es : List (κ × β)} {fs : List (κ × γ)} (k : κ), es.map (·.1) = fs.map (·.1) → (es.any fun e => decide (e.1 = k)) = fs.any fun e => decide (e.1 = k)
  | [], [], _, _ => rfl
  | [], _ :: _, _, h => by simp at h
  | _ :: _, [], _, h => by simp at h
  | a :: es, b :: fs, k, h => by
    simp only [List.map_cons, List.cons.injEq] at h
    rw [List.any_cons, List.any_cons, any_keys k h.2, h.1]
theorem keys_repl (es : List (κ × β)) (k : κ) (d : β) : (es.map fun e => if e.1 = k then (e.1, d) else e).map (·.1) = es.map (·.1) := by
  rw [List.map_map]
  refine List.map_congr_left fun e _ => ?_
  show (if e.1 = k then (e.1, d) else e).1 = e.1
  split <;> rfl
theorem keys_putE (es : List (κ × β)) (k : κ) (d : β) : (putE es k d).map (·.1) = if (es.any fun e => decide (e.1 = k)) = true then es.map (·.1) else es.map (·.1) ++ [k] := by
  unfold putE
  split
  · exact keys_repl es k d
  · rw [List.map_append]; rfl
theorem putK_putE {kvs : List (κ × V)} {k : κ} {v : V} : putK kvs k v = putE kvs k v := rfl
theorem valV_valE {kvs : List (κ × V)} {k : κ} : valV kvs k = valE kvs k := rfl
theorem len_putE (es : List (κ × β)) (k : κ) (d : β) : (putE es k d).length ≤ es.length + 1 := by
  unfold putE
  split
  · rw [List.length_map]; omega
  · rw [List.length_append]; exact Nat.le_refl _
variable {K : PySem.W.Frag} {I : Hp}
theorem dp_repl {v : V} {d : PyData} (k : κ) (hv : Dp K I v d) : ∀ {kvs : List (κ × V)} {es : List (κ × PyData)}, kvs.map (·.1) = es.map (·.1) → DpAll K I (kvs.map (·.2)) (es.map (·.2)) →
    DpAll K I ((kvs.map fun e => if e.1 = k then (e.1, v) else e).map (·.2)) ((es.map fun e => if e.1 = k then (e.1, d) else e).map (·.2))
  | [], [], _, _ => .nil
  | [], _ :: _, h, _ => by simp at h
  | _ :: _, [], h, _ => by simp at h
  | a :: kvs, b :: es, h, hd => by
    simp only [List.map_cons, List.cons.injEq] at h
    rw [List.map_cons, List.map_cons] at hd
    cases hd with
    | cons h1 h2 =>
      simp only [List.map_cons]
      refine .cons ?_ (dp_repl k hv h.2 h2)
      rw [h.1]
      by_cases e : b.1 = k
      · rw [if_pos e, if_pos e]; exact hv
      · rw [if_neg e, if_neg e]; exact h1
theorem dp_put {v : V} {d : PyData} (k : κ) (hv : Dp K I v d) {kvs : List (κ × V)} {es : List (κ × PyData)} (hk : kvs.map (·.1) = es.map (·.1)) (hd : DpAll K I (kvs.map (·.2)) (es.map (·.2))) :
    (putE kvs k v).map (·.1) = (putE es k d).map (·.1) ∧ DpAll K I ((putE kvs k v).map (·.2)) ((putE es k d).map (·.2)) := by
  refine ⟨by rw [keys_putE, keys_putE, any_keys k hk, hk], ?_⟩
  unfold putE
  rw [any_keys k hk]
  split
  · exact dp_repl k hv hk hd
  · rw [List.map_append, List.map_append]
    exact dpAll_append hd (.cons hv .nil)
theorem dp_val (k : κ) : ∀ {kvs : List (κ × V)} {es : List (κ × PyData)}, kvs.map (·.1) = es.map (·.1) → DpAll K I (kvs.map (·.2)) (es.map (·.2)) → ∀ {d : PyData}, valE es k = some d → ∃ v, valE kvs k = some v ∧ Dp K I v d
  | [], [], _, _, d, h => by simp [valE] at h
  | [], _ :: _, h, _, _, _ => by simp at h
  | _ :: _, [], h, _, _, _ => by simp at h
  | a :: kvs, b :: es, h, hd, d, hv => by
    simp only [List.map_cons, List.cons.injEq] at h
    rw [List.map_cons, List.map_cons] at hd
    cases hd with
    | cons h1 h2 =>
      unfold valE at hv ⊢
      rw [List.find?_cons] at hv ⊢
      rw [h.1]
      by_cases e : b.1 = k
      · rw [decide_eq_true e] at hv ⊢
        cases hv
        exact ⟨_, rfl, h1⟩
      · rw [decide_eq_false e] at hv ⊢
        exact dp_val k h.2 h2 hv
theorem some_keys {γ : Type} (k : κ) : ∀ {es : List (κ × β)} {fs : List (κ × γ)}, es.map (·.1) = fs.map (·.1) → (valE es k).isSome = (valE fs k).isSome
  | [], [], _ => rfl
  | [], _ :: _, h => by simp at h
  | _ :: _, [], h => by simp at h
  | a :: es, b :: fs, h => by
    simp only [List.map_cons, List.cons.injEq] at h
    unfold valE
    rw [List.find?_cons, List.find?_cons, h.1]
    by_cases e : b.1 = k
    · rw [decide_eq_true e]; rfl
    · rw [decide_eq_false e]; exact some_keys k h.2
theorem val_none {es : List (κ × β)} {k : κ} (h : k ∉ es.map (·.1)) : valE es k = none := by
  unfold valE
  rw [List.find?_eq_none.mpr]
  · rfl
  · intro e he z
    exact h (List.mem_map.mpr ⟨e, he, of_decide_eq_true z⟩)
theorem val_some_iff (es : List (κ × β)) (k : κ) : (valE es k).isSome = decide (k ∈ es.map (·.1)) := by
  by_cases h : k ∈ es.map (·.1)
  · rw [decide_eq_true h]
    obtain ⟨e, he, e1⟩ := List.mem_map.mp h
    unfold valE
    rw [Option.isSome_map, List.find?_isSome]
    exact ⟨e, he, decide_eq_true e1⟩
  · rw [decide_eq_false h, val_none h]; rfl
end
theorem obAt_dct {K : PySem.W.Frag} {I : Hp} {o : HO} {es : List (Key × PyData)} (h : ObAt K I o (.dct es)) : ∃ kvs : List (Key × V), o = .dK kvs ∧ kvs.map (·.1) = es.map (·.1) ∧ DpAll K I (kvs.map (·.2)) (es.map (·.2)) := by
  cases o with
  | dK kvs => exact ⟨kvs, rfl, h⟩
  | _ => exact h.elim
theorem obAt_dtt {K : PySem.W.Frag} {I : Hp} {o : HO} {es : List (List Key × PyData)} (h : ObAt K I o (.dtt es)) : ∃ kvs : List (List Key × V), o = .dT kvs ∧ kvs.map (·.1) = es.map (·.1) ∧ DpAll K I (kvs.map (·.2)) (es.map (·.2)) := by
  cases o with
  | dT kvs => exact ⟨kvs, rfl, h⟩
  | _ => exact h.elim
abbrev kI (xs : List Int) : List Key := xs.map Sum.inl
theorem kV_kI (xs : List Int) : (kI xs).map kV = xs.map V.int := by rw [List.map_map]; rfl
section
variable {P : Program} {w : World} {K : PySem.W.Frag} {mg : Str → Option Value} {base : Heap} {N : List Str} {sc : Scope} {k : Nat}
variable {X : Cx} {e a b : Expr} {es : List Expr} {A : List C} {pos p p2 : Pos} {x : Str}
/-- {} -/
theorem ev_dct : Ev X A (.Dict [] [] pos) (.own (.dct [])) := fun I0 H0 σ I H rl Q q =>
  wx_of pe_dnewK fun p hp => by
    have g2 := Grow.newH (o := .dK []) rl.ih hp
    exact q _ _ _ g2 ⟨p, .dK [], rfl, hp, rl.ih.free hp, upd_same, rfl, .nil⟩
theorem ev_dtt : Ev X A (.Dict [] [] pos) (.own (.dtt [])) := fun I0 H0 σ I H rl Q q =>
  wx_of pe_dnewT fun p hp => by
    have g2 := Grow.newH (o := .dT []) rl.ih hp
    exact q _ _ _ g2 ⟨p, .dT [], rfl, hp, rl.ih.free hp, upd_same, rfl, .nil⟩
variable (hX : XF P w K mg base N sc k X)
include hX
/-- d[k] = e, k a whole number -/
theorem dputF (j : Nat) {es : List (Key × PyData)} {d : PyData} {i : Int} {ix : Expr} {p3 p4 : Pos} (hN : N[j]? = some x) (hA : A[j]? = some (.own (.dct es))) (hv : Vis sc x) (he : Ev X A e (.dat d)) (hi : Ev X A ix (.dat (.int i))) (hz : es.length < sizeLine) (hd : (x == ("__debug__" : Str)) = false) (hcd : (x == ("__classdict__" : Str)) = false)
    (hs : swapsWith e (some (.Subscript (.Name x p3) ix p4)) pos.line X.env = pure false := by rfl) : S1 X A (.Assign [.Subscript (.Name x p3) ix p4] e pos) (.nx (A.set j (.own (.dct (putE es (.inl i) d))))) := fun I0 H0 σ I H rl D f => by
  obtain ⟨q, o, e1, n0, n, ho, hb⟩ := rl.cell j _ hA
  obtain ⟨kvs, rfl, hk1, hv1⟩ := obAt_dct hb
  refine ws_of (ps_dput (by have := hX.room.un; omega) (pe_var (by rw [hX.eN]; exact hN) (hX.vis hv) hd hcd) wx_pe wx_pe hs) ?_
  refine he I0 H0 σ I H rl _ fun v I1 H1 g1 hd1 => ⟨.ref q, e1, ?_⟩
  refine hi I0 H0 σ I1 H1 (rl.grow g1) _ fun u I2 H2 g2 hu => ?_
  have g := g1.trans g2
  have n1 := g.nw q _ ho n
  refine ⟨q, _, rfl, .inl ⟨kvs, .inl i, g.hh _ _ ho, dp_int hu, ?_, rfl⟩, ?_⟩
  · have := congrArg List.length hk1
    rw [List.length_map, List.length_map] at this
    omega
  · exact f σ I2 _ g.ii (rel_mut (rl.grow g) hA e1 n0 n1 (dp_put (K := X.K) (I := I2) _ (dp_mono g2.ii hd1) hk1 (dpAll_mono g.ii hv1)))
/-- d[k] = e, k a tuple of whole numbers -/
theorem dputTF (j : Nat) {es : List (List Key × PyData)} {d : PyData} {ks : List Int} {ix : Expr} {p3 p4 : Pos} (hN : N[j]? = some x) (hA : A[j]? = some (.own (.dtt es))) (hv : Vis sc x) (he : Ev X A e (.dat d)) (hi : Ev X A ix (.dat (tI ks))) (hz : es.length < sizeLine) (hd : (x == ("__debug__" : Str)) = false) (hcd : (x == ("__classdict__" : Str)) = false)
    (hs : swapsWith e (some (.Subscript (.Name x p3) ix p4)) pos.line X.env = pure false := by rfl) : S1 X A (.Assign [.Subscript (.Name x p3) ix p4] e pos) (.nx (A.set j (.own (.dtt (putE es (kI ks) d))))) := fun I0 H0 σ I H rl D f => by
  obtain ⟨q, o, e1, n0, n, ho, hb⟩ := rl.cell j _ hA
  obtain ⟨kvs, rfl, hk1, hv1⟩ := obAt_dtt hb
  refine ws_of (ps_dput (by have := hX.room.un; omega) (pe_var (by rw [hX.eN]; exact hN) (hX.vis hv) hd hcd) wx_pe wx_pe hs) ?_
  refine he I0 H0 σ I H rl _ fun v I1 H1 g1 hd1 => ⟨.ref q, e1, ?_⟩
  refine hi I0 H0 σ I1 H1 (rl.grow g1) _ fun u I2 H2 g2 hu => ?_
  have g := g1.trans g2
  have n1 := g.nw q _ ho n
  obtain ⟨r, us, rfl, hr, ha⟩ := dp_tupH (show Dp X.K I2 u (.tuple (ks.map .int)) from hu)
  rw [ints_of ha] at hr
  refine ⟨q, _, rfl, .inr ⟨kvs, kI ks, r, g.hh _ _ ho, rfl, by rw [kV_kI]; exact g2.ih _ _ hr, ?_, rfl⟩, ?_⟩
  · have := congrArg List.length hk1
    rw [List.length_map, List.length_map] at this
    omega
  · exact f σ I2 _ g.ii (rel_mut (rl.grow g) hA e1 n0 n1 (dp_put (K := X.K) (I := I2) _ (dp_mono g2.ii hd1) hk1 (dpAll_mono g.ii hv1)))
/-- k in d -/
theorem inTF (j : Nat) {es : List (List Key × PyData)} {ks : List Int} {ix : Expr} {p3 : Pos} (hN : N[j]? = some x) (hA : A[j]? = some (.own (.dtt es))) (hv : Vis sc x) (hi : Ev X A ix (.dat (tI ks))) (hd : (x == ("__debug__" : Str)) = false) (hcd : (x == ("__classdict__" : Str)) = false) :
    Ev X A (.Compare ix [.In] [.Name x p3] pos) (.dat (.bool ((valE es (kI ks)).isSome))) := fun I0 H0 σ I H rl Q q' => by
  obtain ⟨q, o, e1, n0, n, ho, hb⟩ := rl.cell j _ hA
  obtain ⟨kvs, rfl, hk1, hv1⟩ := obAt_dtt hb
  refine wx_of (pe_cmp (pc_din (by have := hX.room.un; omega) wx_pe (pe_var (by rw [hX.eN]; exact hN) (hX.vis hv) hd hcd))) ?_
  refine hi I0 H0 σ I H rl _ fun u I2 H2 g hu => ⟨.ref q, e1, ?_⟩
  obtain ⟨r, us, rfl, hr, ha⟩ := dp_tupH (show Dp X.K I2 u (.tuple (ks.map .int)) from hu)
  rw [ints_of ha] at hr
  refine ⟨q, _, rfl, .inr ⟨kvs, kI ks, r, .inl (g.hh _ _ ho), rfl, by rw [kV_kI]; exact g.ih _ _ hr, rfl⟩, q' _ I2 H2 g ?_⟩
  rw [valV_valE, some_keys (kI ks) hk1]
  exact Dp.bl _
theorem etInTF (j : Nat) {es : List (List Key × PyData)} {ks : List Int} {ix : Expr} {p3 : Pos} (hN : N[j]? = some x) (hA : A[j]? = some (.own (.dtt es))) (hv : Vis sc x) (hi : Ev X A ix (.dat (tI ks))) (hd : (x == ("__debug__" : Str)) = false) (hcd : (x == ("__classdict__" : Str)) = false) :
    Et X A (.Compare ix [.In] [.Name x p3] pos) ((valE es (kI ks)).isSome) := fun I0 H0 σ I H rl Q q' => by
  obtain ⟨q, o, e1, n0, n, ho, hb⟩ := rl.cell j _ hA
  obtain ⟨kvs, rfl, hk1, hv1⟩ := obAt_dtt hb
  refine wt_of (pt_cmp (pc_din (by have := hX.room.un; omega) wx_pe (pe_var (by rw [hX.eN]; exact hN) (hX.vis hv) hd hcd))) ?_
  refine hi I0 H0 σ I H rl _ fun u I2 H2 g hu => ⟨.ref q, e1, ?_⟩
  obtain ⟨r, us, rfl, hr, ha⟩ := dp_tupH (show Dp X.K I2 u (.tuple (ks.map .int)) from hu)
  rw [ints_of ha] at hr
  refine ⟨q, _, rfl, .inr ⟨kvs, kI ks, r, .inl (g.hh _ _ ho), rfl, by rw [kV_kI]; exact g.ih _ _ hr, rfl⟩, _, rfl, ?_⟩
  rw [valV_valE, some_keys (kI ks) hk1]
  exact q' I2 H2 g
/-- d[k], there -/
theorem dgetTF (j : Nat) {es : List (List Key × PyData)} {ks : List Int} {d : PyData} {ix : Expr} {p3 : Pos} (hN : N[j]? = some x) (hA : A[j]? = some (.own (.dtt es))) (hv : Vis sc x) (hi : Ev X A ix (.dat (tI ks))) (hval : valE es (kI ks) = some d) (hd : (x == ("__debug__" : Str)) = false) (hcd : (x == ("__classdict__" : Str)) = false) (hns : NoSl ix) :
    Ev X A (.Subscript (.Name x p3) ix pos) (.dat d) := fun I0 H0 σ I H rl Q q' => by
  obtain ⟨q, o, e1, n0, n, ho, hb⟩ := rl.cell j _ hA
  obtain ⟨kvs, rfl, hk1, hv1⟩ := obAt_dtt hb
  refine wx_of (pe_dget (by have := hX.room.un; omega) (pe_var (by rw [hX.eN]; exact hN) (hX.vis hv) hd hcd) wx_pe hns) ?_
  refine ⟨.ref q, e1, ?_⟩
  refine hi I0 H0 σ I H rl _ fun u I2 H2 g hu => ?_
  obtain ⟨r, us, rfl, hr, ha⟩ := dp_tupH (show Dp X.K I2 u (.tuple (ks.map .int)) from hu)
  rw [ints_of ha] at hr
  obtain ⟨v, v1, v2⟩ := dp_val (kI ks) hk1 hv1 hval
  exact ⟨q, v, rfl, .inr ⟨kvs, kI ks, r, .inl (g.hh _ _ ho), rfl, by rw [kV_kI]; exact g.ih _ _ hr, v1.symm⟩, q' _ I2 H2 g (dp_mono g.ii v2)⟩
/-- sorted(d), the keys whole numbers -/
theorem sortedDF (j : Nat) {es : List (Key × PyData)} {ks : List Int} {p3 : Pos} (hg : GlS sc "sorted") (hm : mg "sorted" = none) (hN : N[j]? = some x) (hA : A[j]? = some (.own (.dct es))) (hv : Vis sc x) (hk : es.map (·.1) = ks.map Sum.inl) (hz : ks.length < 64) (hd : (x == ("__debug__" : Str)) = false) (hcd : (x == ("__classdict__" : Str)) = false)
    (hs : starEach (.Name x p3 :: []) X.env = (false, eval (.Name x p3) X.env) :: starEach [] X.env := by rfl) (hb : bootBuiltins "sorted" = some (.builtin "sorted") := by decide +kernel) :
    Ev X A (.Call (.Name "sorted" p) [.Name x p3] [] pos) (.own (.lst ((ks.mergeSort fun a b => decide (a ≤ b)).map .int))) := fun I0 H0 σ I H rl Q q' => by
  obtain ⟨q, o, e1, n0, n, ho, hb'⟩ := rl.cell j _ hA
  obtain ⟨kvs, rfl, hk1, hv1⟩ := obAt_dct hb'
  refine wx_of (pe_callB (call_sortedDI hX.calm) (hX.gl hg) (by rw [hX.eM]; exact hm) hb (pa_cons (pe_var (by rw [hX.eN]; exact hN) (hX.vis hv) hd hcd) pa_nil hs) (by decide) (by decide) hs rfl) ?_
  refine ⟨.ref q, e1, q, kvs, ks, rfl, .inl ho, hk1.trans hk, hz, fun ys p' hp' hs' hn' => ?_⟩
  have e : ys = ks.mergeSort fun a b => decide (a ≤ b) := by
    refine List.Perm.eq_of_pairwise (le := fun a b : Int => a ≤ b) (fun a b _ _ h1 h2 => Int.le_antisymm h1 h2) hs' ?_ (hp'.trans (List.mergeSort_perm ks _).symm)
    have := List.pairwise_mergeSort (le := fun a b : Int => decide (a ≤ b)) (fun a b c h1 h2 => decide_eq_true (Int.le_trans (of_decide_eq_true h1) (of_decide_eq_true h2))) (fun a b => by
      simp only [Bool.or_eq_true, decide_eq_true_eq]; omega) ks
    exact this.imp fun h => of_decide_eq_true h
  subst e
  have g2 := Grow.newH (o := .lst ((ks.mergeSort fun a b => decide (a ≤ b)).map V.int)) rl.ih hn'
  exact q' _ _ _ g2 ⟨p', _, rfl, hn', rl.ih.free hn', upd_same, dpAll_ints _⟩
end
end LR

set_option Elab.async false
set_option linter.all false
set_option maxRecDepth 100000
set_option maxHeartbeats 4000000
/-! The layer LR, part w: xs.index(d) of encoded data; whole numbers and texts of the module. -/
namespace LR
open PySem PySem.Spec PyProof.Rows L2
/-- the module's name x is a whole number, a text -/
def MI (mg : Str → Option Value) (x : Str) (i : Int) : Prop := ∃ t, mg x = some (.int i t)
def MT (mg : Str → Option Value) (x : Str) (z : Str) : Prop := ∃ t, mg x = some (.str z t)
section
variable {P : Program} {w : World} {K : PySem.W.Frag} {mg : Str → Option Value} {base : Heap} {N : List Str} {sc : Scope} {k : Nat}
variable {X : Cx} {e a b : Expr} {es : List Expr} {A : List C} {pos p p2 p3 : Pos} {x : Str}
variable (hX : XF P w K mg base N sc k X)
include hX
theorem gIntF {i : Int} (hg : GlS sc x) (hm : MI mg x i) (hd : (x == ("__debug__" : Str)) = false) : Ev X A (.Name x pos) (.dat (.int i)) := fun I0 H0 σ I H rl Q q => by
  obtain ⟨t, ht⟩ := hm
  exact wx_of (pe_glob (X := X) (v := .int i) (hX.gl hg) (by rw [hX.eM]; exact ht) ⟨t, rfl⟩ hd) (q _ I H (Grow.refl rl.ih) (Dp.int i))
theorem gStrF {z : Str} (hg : GlS sc x) (hm : MT mg x z) (hd : (x == ("__debug__" : Str)) = false) : Ev X A (.Name x pos) (.dat (.str z)) := fun I0 H0 σ I H rl Q q => by
  obtain ⟨t, ht⟩ := hm
  exact wx_of (pe_glob (X := X) (v := .str z) (hX.gl hg) (by rw [hX.eM]; exact ht) ⟨t, rfl⟩ hd) (q _ I H (Grow.refl rl.ih) (Dp.str z))
/-- xs.index(d), d in xs -/
theorem indexF {α : Type} [DecidableEq α] {enc : α → PyData} {dd : Nat} {e e2 : Expr} {y : α} {xs : List α} {j : Nat} (E : Enc enc dd) (hd : dd ≤ 62) (h1 : Ev X A e (.dat (.list (xs.map enc)))) (h2 : Ev X A e2 (.dat (enc y))) (hj : j < xs.length) (hy : xs[j] = y) (hl : ∀ (i : Nat) (h : i < xs.length), i < j → xs[i] ≠ y)
    (hbase : attributeBase e "index" X.env (eval e X.env) = eval e X.env := by rfl) (hs : starEach (e2 :: []) X.env = (false, eval e2 X.env) :: starEach [] X.env := by rfl)
    (hpl : ((backTo p3 (starEach (e2 :: []) X.env)).all (fun x => !x.1) && (backToKw p3 (keywordEach [] X.env)).all (fun x => x.1.isSome) && decide (([e2] : List Expr).length + ([] : List Keyword).length + (if ([] : List Keyword).isEmpty then 0 else 1) < 30)) = true := by rfl) (hline : (p2.endLine == p3.line) = true := by rfl) :
    Ev X A (.Call (.Attribute e "index" p2) [e2] [] p3) (.dat (.int (j : Nat))) := fun I0 H0 σ I H rl Q q =>
  wx_of (pe_bm PySem.F.plainAttrs_list PySem.F.slot_list_index PySem.F.type_list_index (mt_indexD (by have := hX.room.un; omega)) wx_pe (pa_cons wx_pe pa_nil hs) (hbase := hbase) (hfew := hpl) (hline := hline) (hs := hs) (hplain := rfl)) (h1 I0 H0 σ I H rl _ fun u I1 H1 g1 hu => by
    obtain ⟨a, vs, rfl, hk, ha⟩ := dp_lst (show Dp X.K I1 u (.list _) from hu)
    refine ⟨.inl ⟨rfl, _, same_l g1.ih hk⟩, h2 I0 H0 σ I1 H1 (rl.grow g1) _ fun v I2 H2 g2 hv => ?_⟩
    refine ⟨a, v, enc y, xs.map enc, j, enc xs[j], rfl, rfl, (Dp.lst (same_l (g2.hh) (same_l g1.ih hk)) (dpAll_mono g2.ih (dpAll_mono g2.ii ha))).kit (E.lst.shaped (by omega) xs), (dp_mono g2.ih hv).kit (E.shaped (by omega) y), E.lst.shaped (by omega) xs, E.shaped (by omega) y, ?_, ?_, ?_, q _ I2 H2 (g1.trans g2) (.int _)⟩
    · rw [List.getElem?_map, List.getElem?_eq_getElem hj]; rfl
    · rw [E.eqv, hy]; exact decide_eq_true rfl
    · intro m z' hm hz
      have hm2 : m < xs.length := by omega
      rw [List.getElem?_map, List.getElem?_eq_getElem hm2] at hz
      cases hz
      rw [E.eqv]
      exact decide_eq_false (hl m hm2 hm))
end
end LR

set_option Elab.async false
set_option linter.all false
set_option maxRecDepth 100000
set_option maxHeartbeats 4000000
/-! The layer LR, part x: list(range(n)); a result that is a new tuple with a new list behind. -/
namespace LR
open PySem PySem.Spec PyProof.Rows L2
section
variable {P : Program} {w : World} {K : PySem.W.Frag} {mg : Str → Option Value} {base : Heap} {N : List Str} {sc : Scope} {k : Nat}
variable {X : Cx} {e a b : Expr} {es : List Expr} {A : List C} {pos p p2 p3 p4 : Pos} {x : Str}
theorem rg0 (n : Int) : rgV 0 n = ((List.range n.toNat).map fun i : Nat => (i : Int)).map V.int := by
  unfold rgV
  rw [List.map_map, Int.sub_zero]
  refine List.map_congr_left fun i _ => ?_
  show V.int (0 + (i : Int)) = V.int (i : Int)
  rw [Int.zero_add]
/-- a new tuple, its last item the def's new list -/
theorem ev_tupO3 {e1 e2 e3 : Expr} {d1 d2 : PyData} {es : List PyData} {kk} (h1 : Ev X A e1 (.dat d1)) (h2 : Ev X A e2 (.dat d2)) (h3 : Ev X A e3 (.own (.lst es)))
    (n1 : starEach (e1 :: [e2, e3]) X.env = (false, eval e1 X.env) :: starEach [e2, e3] X.env := by rfl) (n2 : starEach (e2 :: [e3]) X.env = (false, eval e2 X.env) :: starEach [e3] X.env := by rfl) (n3 : starEach (e3 :: []) X.env = (false, eval e3 X.env) :: starEach [] X.env := by rfl) :
    Ev X A (.Tuple [e1, e2, e3] kk pos) (.tpo [d1, d2] es) := fun I0 H0 σ I H rl Q q' =>
  wx_of (pe_tup (pa_cons wx_pe (pa_cons wx_pe (pa_cons wx_pe pa_nil n3) n2) n1)) (h1 I0 H0 σ I H rl _ fun v1 I1 H1 g1 hv1 => h2 I0 H0 σ I1 H1 (rl.grow g1) _ fun v2 I2 H2 g2 hv2 => h3 I0 H0 σ I2 H2 ((rl.grow g1).grow g2) _ fun v3 I3 H3 g3 hv3 => by
    obtain ⟨q, o, rfl, m, m', hq, hb⟩ := hv3
    obtain ⟨us, rfl, ha⟩ := obAt_lst hb
    have g := (g1.trans g2).trans g3
    have mh : H q = none := (g1.hh.trans g2.hh).free m
    refine ⟨by rw [sizeLine_eq]; show 3 ≤ 16777216; decide, fun p hp => ?_⟩
    have g4 := Grow.newH (o := .tup [v1, v2, .ref q]) g.ih hp
    have hpq : q ≠ p := ne_of_none hq hp
    exact q' _ _ _ (g.trans g4) ⟨p, q, [v1, v2], us, rfl, g.hh.free hp, g.ih.free hp, upd_same, .cons (dp_mono (g2.trans g3).ii hv1) (.cons (dp_mono g3.ii hv2) .nil), mh, m', by rw [upd_ne hpq]; exact hq, ha⟩)
/-- .. as data -/
theorem ev_soft {ds es : List PyData} (h : Ev X A e (.tpo ds es)) : Ev X A e (.dat (.tuple (ds ++ [.list es]))) := fun I0 H0 σ I H rl Q q' =>
  h I0 H0 σ I H rl Q fun v I1 H1 g hv => by
    obtain ⟨p, q, vs, us, rfl, n1, n2, h1, a1, m1, m2, h2, a2⟩ := hv
    have g2 := g.know (o := .lst us) m1 m2 h2
    have hpq : p ≠ q := fun z => by
      subst z
      rw [h1] at h2
      cases h2
    have n2' : upd I1 q (.lst us) p = none := by rw [upd_ne hpq]; exact n2
    have g3 := g2.know (o := .tup (vs ++ [.ref q])) n1 n2' h1
    have s2 : Same I1 (upd I1 q (.lst us)) := fun b u z => by rw [upd_ne (ne_of_none z m2)]; exact z
    have s3 : Same (upd I1 q (.lst us)) (upd (upd I1 q (.lst us)) p (.tup (vs ++ [.ref q]))) := fun b u z => by rw [upd_ne (ne_of_none z n2')]; exact z
    exact q' _ _ _ g3 (.tup upd_same (dpAll_append (dpAll_mono (s2.trans s3) a1) (dpAll_one (.lst (.inl (.inl (s3 _ _ upd_same))) (dpAll_mono (s2.trans s3) a2)))))
theorem tg_namesO {K : PySem.W.Frag} {jl : Nat} {q0 : Addr} {o : HO} {b : Ob} {I0 H0 I H : Hp} (n0 : H0 q0 = none) (n1 : I q0 = none) (ho : H q0 = some o) (hb : ObAt K I o b) : ∀ {js : List Nat} {σ : L2.St} {A A' : List C} {ds : List PyData} {vs : List V}, uNames js A ds A' → A'[jl]?.isSome = true → Rel K I0 H0 A σ I H → DpAll K I vs ds →
    (∀ i : Nat, isOwn A[i]? → σ[i]? ≠ some (some (.ref q0))) → ∀ Q : L2.St → Hp → Prop, (∀ σ', Rel K I0 H0 (A'.set jl (.own b)) σ' I H → Q σ' H) → gNames (js ++ [jl]) (vs ++ [.ref q0]) σ H Q
  | [], _, _, _, _, _, ⟨e1, e2⟩, hj, r, hv, far, Q, q => by
    subst e1 e2
    cases hv
    exact ⟨_, _, rfl, rfl, q _ (rel_own (Hs := H) r (lt_of_some hj) n0 n1 ho hb far)⟩
  | j :: js, σ, A, A', ds, vs, ⟨d, rd, e1, hj, u⟩, hjl, r, hv, far, Q, q => by
    subst e1
    cases hv with
    | cons h1 h2 =>
      refine ⟨_, _, rfl, tg_namesO n0 n1 ho hb u hjl (rel_set r h1 (lt_of_some hj)) h2 (fun i hi => ?_) Q q⟩
      by_cases ji : j = i
      · subst ji
        rw [List.getElem?_set_self (lt_of_some hj)] at hi
        exact hi.elim
      · rw [List.getElem?_set_ne ji] at hi ⊢
        exact far i hi
def noLC : C → Bool
  | .un => true
  | .dat d => noL d
  | .rf _ => true
  | _ => false
/-- a statement in which an own list is read alone -/
theorem s1_lend (j : Nat) {ds : List PyData} {st : Stmt} {A2 : List C} (hA : A[j]? = some (.own (.lst ds))) (hn : noLs ds = true) (h : ∀ a, S1 X (A.set j (.kn a (.list ds))) st (.nx (A2.set j (.kn a (.list ds))))) (hok : ∀ i c, i ≠ j → A2[i]? = some c → noLC c = true) (hj2 : j < A2.length) :
    S1 X A st (.nx (A2.set j (.own (.lst ds)))) := fun I0 H0 σ I H rl D f => by
  have hj : j < A.length := by
    by_cases hj : j < A.length
    · exact hj
    · rw [List.getElem?_eq_none (by omega)] at hA; cases hA
  obtain ⟨q, o', e1, n0, n, ho, hb⟩ := rl.cell j _ hA
  obtain ⟨vs, rfl, ha⟩ := obAt_lst hb
  have s2 : Same I (upd I q (.lst vs)) := fun b u z => by rw [upd_ne (ne_of_none z n)]; exact z
  refine h q I0 H0 σ (upd I q (.lst vs)) H ⟨rl.gr.know n0 n ho, by rw [List.length_set]; exact rl.len, fun i c hc => ?_, fun i i' r ne o1 o2 hr => ?_⟩ D fun σ' I2 H2 sm r2 => ?_
  · by_cases hi : j = i
    · subst hi
      rw [List.getElem?_set_self hj] at hc
      cases hc
      exact ⟨e1, .lst (.inl (.inl upd_same)) (dpAll_mono s2 ha)⟩
    · rw [List.getElem?_set_ne hi] at hc
      have z := rl.cell i c hc
      cases c with
      | un => trivial
      | rf a => exact z
      | tpo ds es => trivial
      | kn a d => exact ⟨z.1, dp_mono s2 z.2⟩
      | dat d => obtain ⟨v, e2, hd⟩ := z; exact ⟨v, e2, dp_mono s2 hd⟩
      | own b =>
        obtain ⟨q2, o2, e2, m0, m, ho2, hb2⟩ := z
        have hne : q2 ≠ q := fun z => by
          subst z
          exact rl.apart j i q2 hi (by rw [hA]; trivial) (by rw [hc]; trivial) e1 e2
        exact ⟨q2, o2, e2, m0, by rw [upd_ne hne]; exact m, ho2, obAt_mono s2 hb2⟩
  · have key : ∀ i : Nat, isOwn (A.set j (.kn q (.list ds)))[i]? → isOwn A[i]? := fun i o => by
      by_cases hi : j = i
      · subst hi; rw [List.getElem?_set_self hj] at o; exact o.elim
      · rw [List.getElem?_set_ne hi] at o; exact o
    exact rl.apart i i' r ne (key i o1) (key i' o2) hr
  · have hq2 : I2 q = some (.lst vs) := sm q _ upd_same
    have fne : ∀ b, b ≠ q → forget I2 q b = I2 b := fun b hb2 => if_neg hb2
    have fa : forget I2 q q = none := if_pos rfl
    refine f σ' (forget I2 q) H2 (fun b u e => ?_) ⟨⟨fun b u e => ?_, r2.gr.hh, fun b u e => ?_, fun b u e1' e2 => ?_⟩, by rw [List.length_set]; have := r2.len; rw [List.length_set] at this; exact this, fun i c hc => ?_, fun i i' r ne o1 o2 hr => ?_⟩
    · have hb2 : b ≠ q := ne_of_none e n
      rw [fne b hb2]
      exact sm b u (by rw [upd_ne hb2]; exact e)
    · have hb2 : b ≠ q := fun z => by
        subst z
        have := rl.gr.ii _ _ e
        rw [n] at this
        cases this
      rw [fne b hb2]
      exact r2.gr.ii b u e
    · by_cases hb2 : b = q
      · subst hb2; rw [fa] at e; cases e
      · rw [fne b hb2] at e; exact r2.gr.ih b u e
    · by_cases hb2 : b = q
      · subst hb2; exact fa
      · rw [fne b hb2]; exact r2.gr.nw b u e1' e2
    · by_cases hi : j = i
      · subst hi
        rw [List.getElem?_set_self hj2] at hc
        cases hc
        have z := r2.cell j (.kn q (.list ds)) (by rw [List.getElem?_set_self hj2])
        exact ⟨q, .lst vs, z.1, n0, fa, r2.gr.ih _ _ hq2, show DpAll X.K (forget I2 q) vs ds from dpAll_forget hq2 (dpAll_mono (s2.trans sm) ha) hn⟩
      · rw [List.getElem?_set_ne hi] at hc
        have z := r2.cell i c (by rw [List.getElem?_set_ne hi]; exact hc)
        have hl := hok i c (fun e => hi e.symm) hc
        cases c with
        | un => trivial
        | rf a => exact z
        | dat d => obtain ⟨v, e2, hd⟩ := z; exact ⟨v, e2, dp_forget hq2 hd hl⟩
        | tpo ds es => cases hl
        | kn a d => cases hl
        | own b => cases hl
    · have key : ∀ i : Nat, isOwn (A2.set j (.own (.lst ds)))[i]? → i = j := fun i o => by
        by_cases hi : j = i
        · exact hi.symm
        · rw [List.getElem?_set_ne hi] at o
          cases hc : A2[i]? with
          | none => rw [hc] at o; exact o.elim
          | some c =>
            rw [hc] at o
            cases c with
            | own b => have := hok i _ (fun e => hi e.symm) hc; cases this
            | un => exact o.elim
            | rf a => exact o.elim
            | dat d => exact o.elim
            | tpo ds es => exact o.elim
            | kn a d => exact o.elim
      exact absurd ((key i o1).trans (key i' o2).symm) ne
/-- a new dict, looked at no more -/
theorem ev_frzD {es : List (Key × PyData)} (h : Ev X A e (.own (.dct es))) : Ev X A e (.dat (.dict [])) := fun I0 H0 σ I H r Q q =>
  h I0 H0 σ I H r Q fun v I' H' g hv => by
    obtain ⟨p, o, rfl, n, n', h', hb⟩ := hv
    obtain ⟨kvs, rfl, _⟩ := obAt_dct hb
    exact q _ _ _ (g.know (o := .dK kvs) n n' h') (.dic upd_same)
/-- {i: d}, looked at no more -/
theorem ev_disp1 {e1 e2 : Expr} {i : Int} {d : PyData} (h1 : Ev X A e1 (.dat (.int i))) (h2 : Ev X A e2 (.dat d)) : Ev X A (.Dict [some e1] [e2] pos) (.dat (.dict [])) := fun I0 H0 σ I H rl Q q' =>
  wx_of (pe_disp (pps_cons (wx_pe (e := e1)) (wx_pe (e := e2)) pps_nil) rfl rfl (by simp) (show 1 ≤ 15 by decide)) fun p hp => by
    have g0 := Grow.newH (o := .dK []) rl.ih hp
    have n0 := rl.ih.free hp
    refine h1 I0 H0 σ I _ (rl.grow g0) _ fun v1 I1 H1 g1 hv1 => h2 I0 H0 σ I1 H1 ((rl.grow g0).grow g1) _ fun v2 I2 H2 g2 hv2 => ?_
    have g := g1.trans g2
    have hp2 : H2 p = some (.dK []) := g.hh _ _ upd_same
    have np : I2 p = none := g.nw p _ upd_same n0
    refine ⟨hp2, [(.inl i, v2)], by rw [dp_int hv1]; rfl, show 1 ≤ 15 by decide, ?_⟩
    have gm := ((g0.trans g).mut (o := .dK (mergeK [] [(.inl i, v2)])) hp np).know (o := .dK (mergeK [] [(.inl i, v2)])) hp np upd_same
    exact q' _ _ _ gm (.dic upd_same)
variable (hX : XF P w K mg base N sc k X)
include hX
theorem knF (i : Nat) {a : Addr} {d : PyData} (hN : N[i]? = some x) (hA : A[i]? = some (.kn a d)) (hv : Vis sc x) (hd : (x == ("__debug__" : Str)) = false) (hcd : (x == ("__classdict__" : Str)) = false) : Ev X A (.Name x pos) (.dat d) := fun I0 H0 σ I H rl Q q' => by
  obtain ⟨e1, h1⟩ := rl.cell i _ hA
  exact wx_of (pe_var (by rw [hX.eN]; exact hN) (hX.vis hv) hd hcd) ⟨.ref a, e1, q' _ I H (.refl rl.ih) h1⟩
theorem listRgF {n : Int} (hgl : GlS sc "list") (hml : mg "list" = none) (hgr : GlS sc "range") (hmr : mg "range" = none) (h : Ev X A e (.dat (.int n))) (h1 : 0 ≤ n) (h2 : n ≤ 16777216)
    (na : starEach [e] X.env = (false, eval e X.env) :: starEach [] X.env := by rfl) (nb : starEach [.Call (.Name "range" p2) [e] [] p3] X.env = (false, eval (.Call (.Name "range" p2) [e] [] p3) X.env) :: starEach [] X.env := by rfl) :
    Ev X A (.Call (.Name "list" p) [.Call (.Name "range" p2) [e] [] p3] [] pos) (.own (.lst (((List.range n.toNat).map fun i : Nat => (i : Int)).map .int))) := fun I0 H0 σ I H rl Q q' =>
  wx_of (pe_listRg hX.calm (hX.gl hgl) (by rw [hX.eM]; exact hml) (prg_1 (hX.gl hgr) (by rw [hX.eM]; exact hmr) wx_pe na) nb) (h I0 H0 σ I H rl _ fun v I1 H1 g hv => ⟨n, dp_int hv, RgOk.of_le (by omega) h2 (by omega) h1, fun q hq => by
    have g2 := Grow.newH (o := .lst (rgV 0 n)) g.ih hq
    refine q' _ _ _ (g.trans g2) ⟨q, _, rfl, g.hh.free hq, g.ih.free hq, upd_same, ?_⟩
    rw [rg0]
    exact dpAll_ints _⟩)
/-- a, b, .. = a new tuple with a new list behind -/
theorem unpO {js : List Nat} {jl : Nat} {ds es : List PyData} {A' : List C} {tgs : List Expr} {kk} (hg : PGs X tgs (gNames (js ++ [jl]))) (he : Ev X A e (.tpo ds es)) (hu : uNames js A ds A') (hjl : A'[jl]?.isSome = true) (hlen : (assignEach tgs X.env).length = (js ++ [jl]).length := by rfl) (hst : (assignEach tgs X.env).findIdx? (·.1) = none := by rfl)
    (hs : swapsWithSole [.Tuple tgs kk p2] e pos.line X.env = pure false := by rfl) (hw : swappedStores [.Tuple tgs kk p2] e X.env = pure none := by rfl) : S1 X A (.Assign [.Tuple tgs kk p2] e pos) (.nx (A'.set jl (.own (.lst es)))) := fun I0 H0 σ I H rl D f =>
  ws_of (ps_asg wx_pe (pg_tup hX.calm hg hlen hst) hs hw) (he I0 H0 σ I H rl _ fun v I1 H1 g hv => by
    obtain ⟨p, q, vs, us, rfl, n1, n2, h1, a1, m1, m2, h2, a2⟩ := hv
    refine ⟨p, vs ++ [.ref q], rfl, .inl (.inl h1), ?_, tg_namesO (b := .lst es) (rl.gr.hh.free m1) m2 h2 (show ObAt X.K I1 (.lst us) (.lst es) from a2) hu hjl (rl.grow g) a1 (fun i hi => rl.far m1 i hi) _ fun σ' r' => f σ' I1 H1 g.ii r'⟩
    rw [List.length_append, List.length_append, dpAll_len a1, uNames_len hu]
    rfl)
end
end LR

set_option Elab.async false
set_option linter.all false
set_option maxRecDepth 100000
set_option maxHeartbeats 4000000
/-! The layer LR, part y: name = xs.pop(i), abs. -/
namespace LR
open PySem PySem.Spec PyProof.Rows L2
theorem dpAll_erase {K : PySem.W.Frag} {H : Hp} : ∀ {vs : List V} {ds : List PyData} (n : Nat), DpAll K H vs ds → DpAll K H (vs.eraseIdx n) (ds.eraseIdx n)
  | _, _, _, .nil => .nil
  | _, _, 0, .cons h t => t
  | _, _, n + 1, .cons h t => .cons h (dpAll_erase n t)
section
variable {P : Program} {w : World} {K : PySem.W.Frag} {mg : Str → Option Value} {base : Heap} {N : List Str} {sc : Scope} {k : Nat}
variable {X : Cx} {e a b : Expr} {es : List Expr} {A : List C} {pos p p2 p3 p4 : Pos} {x y : Str}
variable (hX : XF P w K mg base N sc k X)
include hX
theorem absF {i : Int} (hg : GlS sc "abs") (hm : mg "abs" = none) (h : Ev X A e (.dat (.int i))) (hs : starEach (e :: []) X.env = (false, eval e X.env) :: starEach [] X.env := by rfl) (hb : bootBuiltins "abs" = some (.builtin "abs") := by decide +kernel) :
    Ev X A (.Call (.Name "abs" p) [e] [] pos) (.dat (.int (if i < 0 then -i else i))) := fun I0 H0 σ I H rl Q q =>
  wx_of (pe_callB call_abs (hX.gl hg) (by rw [hX.eM]; exact hm) hb (pa_cons wx_pe pa_nil hs) (by decide) (by decide) hs rfl) (h I0 H0 σ I H rl _ fun v I1 H1 g hv => ⟨i, by rw [dp_int hv], q _ I1 H1 g (Dp.int _)⟩)
/-- name = [.. if ..] -/
theorem setLcIf {α : Type} {elt iter c : Expr} {scope : Scope} {src : List PyData} {y : Str} {py spos : Pos} (i j : Nat) (xs : List α) (enc : α → PyData) (pr : α → Bool) (f : α → PyData) (hi : EvI X A (.Name x p) iter src) (hsrc : src = xs.map enc) (ok : blkC N sc scope [(x, j)] = true)
    (hN : N[j]? = some x) (hx : (relS scope sc).names.lookup x = some .local) (hz : xs.length < sizeLine) (hj : A[j]?.isSome = true)
    (hb : ∀ Y, XF P w K mg base N (relS scope sc) k Y → ∀ z ∈ xs, Et Y ((A.set j .un).set j (.dat (enc z))) c (pr z) ∧ (pr z = true → Ev Y ((A.set j .un).set j (.dat (enc z))) elt (.dat (f z))))
    (hyN : N[i]? = some y) (hyl : sc.names.lookup y = some .local) (hyj : A[i]?.isSome = true) (hk : sc.kind = .function) (hl : (py.line == pos.line) = true) (ha : (scope.names.any fun (n, k) => n == y && (k == .local || k == .cell)) = false)
    (hs : ∀ x, foldedSetIterable iter X.env x = pure x := by intro _; rfl) : S1 X A (.Assign [.Name y py] (.ListComp elt [⟨.Name x p, iter, [c], 0⟩] scope pos) spos) (.nx (A.set i (.own (.lst ((xs.filter pr).map f))))) :=
  s1_setLc (own := [(x, j)]) (g := gName j) (U := uName j) (A := A) (elt := elt) (ifs := [c]) (pos := pos) (spos := spos) (py := py) xs enc pr f hX.calm hX.ndX hi hsrc (by rw [hX.eN, hX.eS]; exact blkOk_by ok) (fun s H C cl fp => tgB hX.blk j hN hx) tg_name tgw_name (Nat.le_refl _) hz
    (fun z hz => ⟨_, ⟨by show ((A.set j .un)[j]?).isSome = true; rw [List.getElem?_set_self (lt_of_some hj)]; rfl, rfl⟩, fun s H C cl fp => (hb _ hX.blk z hz).1, fun h s H C cl fp => (hb _ hX.blk z hz).2 h⟩) hs (i := i) (y := y) (by rw [hX.eN]; exact hyN) (by rw [hX.eS]; exact hyl) (sw_true (by rw [hX.eS]; exact hk) (by rw [hX.eS]; exact hyl) hl ha) hyj
/-- y = xs.pop(i), xs the def's own list -/
theorem popAtF (hT : XT X) (i j : Nat) {ds : List PyData} {d : PyData} {n : Nat} {pos' : Pos} (hNy : N[i]? = some y) (hy : L2.Loc sc y) (hN : N[j]? = some x) (hA : A[j]? = some (.own (.lst ds))) (hij : i ≠ j) (hi : A[i]?.isSome = true) (hv : Vis sc x) (he : Ev X A e (.dat (.int n))) (hk : ds[n]? = some d) (hz : ds.length ≤ sizeLine)
    (hd : (x == ("__debug__" : Str)) = false) (hcd : (x == ("__classdict__" : Str)) = false)
    (hs : starEach (e :: []) X.env = (false, eval e X.env) :: starEach [] X.env := by rfl) (hpl : ((backTo p3 (starEach (e :: []) X.env)).all (fun x => !x.1) && (backToKw p3 (keywordEach [] X.env)).all (fun x => x.1.isSome) && decide (([e] : List Expr).length + ([] : List Keyword).length + (if ([] : List Keyword).isEmpty then 0 else 1) < 30)) = true := by rfl) (hline : (p2.endLine == p3.line) = true := by rfl)
    (hsw : swapsWith (.Call (.Attribute (.Name x p) "pop" p2) [e] [] p3) (some (.Name y pos')) p4.line X.env = pure false := by rfl) :
    S1 X A (.Assign [.Name y pos'] (.Call (.Attribute (.Name x p) "pop" p2) [e] [] p3) p4) (.nx ((A.set j (.own (.lst (ds.eraseIdx n)))).set i (.dat d))) := fun I0 H0 σ I H rl D f => by
  obtain ⟨q, o, e1, n0, nn, ho, hb⟩ := rl.cell j _ hA
  obtain ⟨vs, rfl, ha⟩ := obAt_lst hb
  have hl : n < ds.length := by
    refine Classical.byContradiction fun z => ?_
    rw [List.getElem?_eq_none (by omega)] at hk
    cases hk
  refine ws_of (ps_set hX.ndX (by rw [hX.eN]; exact hNy) (hX.loc hy) (pe_bm PySem.F.plainAttrs_list PySem.F.slot_list_pop PySem.F.type_list_pop mt_popAt (pe_var (by rw [hX.eN]; exact hN) (hX.vis hv) hd hcd) (pa_cons wx_pe pa_nil hs) (hfew := hpl) (hline := hline) (hs := hs) (hplain := rfl)) hsw (.inl (hT.fn _))) ?_
  refine ⟨.ref q, e1, .inl ⟨rfl, _, .inl (.inl ho)⟩, ?_⟩
  refine he I0 H0 σ I H rl _ fun v I1 H1 g hv1 => ?_
  obtain ⟨u, hu, hdu⟩ := dpAll_get ha hk
  have n1 := g.nw q _ ho nn
  have lv := dpAll_len ha
  rw [sizeLine_eq] at hz
  refine ⟨q, vs, n, n, u, rfl, by rw [dp_int hv1], g.hh _ _ ho, by omega, by omega, ?_, hu, ?_⟩
  · unfold seqIndex?
    simp
    omega
  · refine f _ I1 _ g.ii (rel_set (rel_mut (rl.grow g) hA e1 n0 n1 (show ObAt X.K I1 (.lst (vs.eraseIdx n)) (.lst (ds.eraseIdx n)) from dpAll_erase n (dpAll_mono g.ii ha))) (dp_mono g.ii hdu) ?_)
    rw [List.length_set]
    exact lt_of_some hi
end
end LR

namespace W
open PySem PySem.Spec PyProof.Rows L2 LR
def topS (i : Nat) : Stmt := PySem.Challenge.pw_longrounds_k01_primes.main.body.getD i (.Pass ⟨0, 0, 0, 0⟩)
abbrev s_is_whole : Stmt := topS 9
theorem sc_is_whole : FnScope ["thing"] ["thing"] (defScope s_is_whole) := ⟨rfl, rfl, rfl, by decide +kernel, rfl, by decide +kernel, by decide +kernel⟩
abbrev s_prime : Stmt := topS 10
theorem sc_prime : FnScope ["thing", "by"] ["thing"] (defScope s_prime) := ⟨rfl, rfl, rfl, by decide +kernel, rfl, by decide +kernel, by decide +kernel⟩
abbrev s__law_prime : Stmt := topS 12
theorem sc__law_prime : FnScope ["cell", "n", "by"] ["cell"] (defScope s__law_prime) := ⟨rfl, rfl, rfl, by decide +kernel, rfl, by decide +kernel, by decide +kernel⟩
abbrev s__law_whole : Stmt := topS 13
theorem sc__law_whole : FnScope ["found"] ["found"] (defScope s__law_whole) := ⟨rfl, rfl, rfl, by decide +kernel, rfl, by decide +kernel, by decide +kernel⟩
abbrev s__law_thing : Stmt := topS 14
theorem sc__law_thing : FnScope ["cell", "way", "rest"] ["cell"] (defScope s__law_thing) := ⟨rfl, rfl, rfl, by decide +kernel, rfl, by decide +kernel, by decide +kernel⟩
abbrev s__law_is_prime : Stmt := topS 15
theorem sc__law_is_prime : FnScope ["n", "by"] ["n"] (defScope s__law_is_prime) := ⟨rfl, rfl, rfl, by decide +kernel, rfl, by decide +kernel, by decide +kernel⟩
abbrev s__law_refused : Stmt := topS 16
theorem sc__law_refused : FnScope ["thing", "good", "other", "e"] ["thing"] (defScope s__law_refused) := ⟨rfl, rfl, rfl, by decide +kernel, rfl, by decide +kernel, by decide +kernel⟩
abbrev s_law : Stmt := topS 17
theorem sc_law : FnScope ["script", "cell", "thing", "found", "same"] ["script"] (defScope s_law) := ⟨rfl, rfl, rfl, by decide +kernel, rfl, by decide +kernel, by decide +kernel⟩
end W
open PySem PySem.Spec PyProof.Rows L2 LR
local macro_rules | `(tactic| wtm_at "dk") => `(tactic| decide +kernel)
local macro_rules | `(tactic| wtm_at "ra") => `(tactic| with_reducible assumption)
local macro_rules | `(tactic| wtm_at "sd") => `(tactic| first | (with_reducible assumption) | omega | (simp only [List.length_map, List.length_range, List.length_append, List.length_cons, List.length_nil, List.length_replicate, List.length_take, List.length_drop] at *; omega))
local macro_rules | `(tactic| wtm_at "sz") => `(tactic| first | decide +kernel | (simp only [sizeLine_eq, List.length_map, List.length_range, List.length_append, List.length_cons, List.length_nil, List.length_replicate, List.length_take, List.length_drop] at *; omega))
local macro_rules | `(tactic| wtm_at "seqd") => `(tactic| first | exact SeqD.tup | exact SeqD.lst)
local macro_rules | `(tactic| wtm_at "seq") => `(tactic| first
  | (wtm_at "own")
  | (refine' evs_new ?a_m1; (case' a_m1 => wtm_at "evl"))
  | (refine' evs_dat ?a_m2 ?r_m2; (case' a_m2 => wtm_at "ev"); (case' r_m2 => wtm_at "seqd"))
  | (refine' evs_new ?a_m3; (case' a_m3 => wtm_at "ev")))
local macro_rules | `(tactic| wtm_at "evl") => `(tactic| first
  | (refine' ev_lst ?a_m4 ?sd_m4; (case' a_m4 => wtm_at "args"); (case' sd_m4 => wtm_at "sz"))
  | ((with_reducible refine' ev_takeL ?sa_n70 ?sb_n70 ?sc_n70); (case' sa_n70 => wtm_at "seq"); (case' sb_n70 => wtm_at "ev"); (case' sc_n70 => try (wtm_at "sd")))
  | ((with_reducible refine' ev_dropL ?sa_n71 ?sb_n71 ?sc_n71); (case' sa_n71 => wtm_at "seq"); (case' sb_n71 => wtm_at "ev"); (case' sc_n71 => try (wtm_at "sd")))
  | ((with_reducible refine' ev_midL ?sa_n72 ?sb_n72 ?sc_n72 ?sd_n72 ?se_n72); (case' sa_n72 => wtm_at "seq"); (case' sb_n72 => wtm_at "ev"); (case' sc_n72 => wtm_at "ev"); (case' sd_n72 => try (wtm_at "sd")); (case' se_n72 => try (wtm_at "sd")))
  | (refine' ev_slL ?a_m5 ?l_m5 ?u_m5; (case' a_m5 => wtm_at "seq"); (case' l_m5 => wtm_at "part"); (case' u_m5 => wtm_at "part"))
  | ((with_reducible show Ev _ _ (.Call (.Name "list" _) _ _ _) _); wtm_at "call"))
local macro_rules | `(tactic| wtm_at "bin") => `(tactic| first
  | exact BinD.add | exact BinD.sub
  | (refine' BinD.mul ?sd_m6; try (case sd_m6 => (first | (with_reducible assumption) | exact Or.inl (by omega) | exact Or.inr (by omega))))
  | (refine' BinD.mod ?sd_m7; try (case sd_m7 => wtm_at "sd"))
  | (refine' BinD.div ?sd_m8 ?sd2_m8; try (case sd_m8 => wtm_at "sd"); try (case sd2_m8 => wtm_at "sd"))
  | (refine' BinD.pow ?sd_m9; try (case sd_m9 => (first | decide | exact ⟨by decide, by decide, by decide⟩ | (wtm_at "sd"))))
  | (with_reducible refine' BinD.catI ?sda; try (case sda => wtm_at "sz"))
  | (with_reducible refine' BinD.catI1 ?sdb; try (case sdb => wtm_at "sz"))
  | (with_reducible refine' BinD.cat1I ?sdc; try (case sdc => wtm_at "sz"))
  | (with_reducible refine' BinD.catT ?sdd; try (case sdd => wtm_at "sz"))
  | (with_reducible refine' BinD.catT1 ?sde; try (case sde => wtm_at "sz"))
  | (refine' BinD.cat ?sd_m10; try (case sd_m10 => wtm_at "sz"))
  | (refine' BinD.str ?sd_m11; try (case sd_m11 => wtm_at "sz")))
local macro_rules | `(tactic| wtm_at "cmp") => `(tactic| first
  | exact CmpD.lt | exact CmpD.le | exact CmpD.gt | exact CmpD.ge | exact CmpD.eqI | exact CmpD.neI | exact CmpD.eqS | exact CmpD.neS)
local macro_rules | `(tactic| wtm_at "cmpr") => `(tactic| first
  | (refine' cmpR_D ?cr1; (case' cr1 => wtm_at "cmp"))
  | (with_reducible exact cmpR_isN) | (with_reducible exact cmpR_notN)
  | exact cmpEqI (by assumption)
  | exact cmpNeI (by assumption)
  | exact cmpEqT (by assumption)
  | exact cmpNeT (by assumption))
local macro_rules | `(tactic| wtm_at "ix") => `(tactic| first
  | (with_reducible assumption)
  | (with_reducible refine' ixLastI ?sdl; try (case sdl => wtm_at "sd"))
  | (with_reducible refine' IxD.nIn ?sd_m12; try (case sd_m12 => wtm_at "sd"))
  | (with_reducible refine' IxD.nTn ?sd_m13; try (case sd_m13 => wtm_at "sd"))
  | (with_reducible refine' IxD.nI ?sd_m14 ?sd2_m14; try (case sd_m14 => wtm_at "sd"); try (case sd2_m14 => wtm_at "sd"))
  | (with_reducible refine' IxD.nT ?sd_m15 ?sd2_m15; try (case sd_m15 => wtm_at "sd"); try (case sd2_m15 => wtm_at "sd"))
  | (with_reducible refine' IxD.nS ?sd_m16 ?sd2_m16; try (case sd_m16 => wtm_at "sd"); try (case sd2_m16 => wtm_at "sd"))
  | (with_reducible refine' IxD.nL2 ?sd_m17 ?sd2_m17; try (case sd_m17 => wtm_at "sd"); try (case sd2_m17 => wtm_at "sd"))
  | (with_reducible refine' IxD.nL3 ?sd_m18 ?sd2_m18; try (case sd_m18 => wtm_at "sd"); try (case sd2_m18 => wtm_at "sd"))
  | (with_reducible refine' IxD.nL4 ?sd_m19 ?sd2_m19; try (case sd_m19 => wtm_at "sd"); try (case sd2_m19 => wtm_at "sd"))
  | (with_reducible refine' IxD.nTTn ?sdt; try (case sdt => wtm_at "sd"))
  | (with_reducible refine' IxD.nTT ?sdu ?sdv; try (case sdu => wtm_at "sd"); try (case sdv => wtm_at "sd"))
  | exact IxD.lit rfl)
local macro_rules | `(tactic| wtm_at "args") => `(tactic| first
  | exact ea_nil
  | (refine' ea_cons ?a_m20 ?b_m20; (case' a_m20 => wtm_at "ev"); (case' b_m20 => wtm_at "args")))
local macro_rules | `(tactic| wtm_at "R") => `(tactic| (constructor; all_goals try (wtm_at "sd")))
local macro_rules | `(tactic| wtm_at "part") => `(tactic| first | exact evo_none | (refine' evo_some ?pt1; (case' pt1 => wtm_at "ev")))
local macro_rules | `(tactic| wtm_at "call") => `(tactic| first
  | ((with_reducible show Ev _ _ (.Call (.Name "len" _) _ _ _) _); refine' lenF ?q1_m21 ?q2_m21 ?q3_m21 ?a_m21; (case' q1_m21 => assumption); (case' q2_m21 => decide +kernel); (case' q3_m21 => with_reducible assumption); (case' a_m21 => wtm_at "seq"))
  | ((with_reducible show Ev _ _ (.Call (.Name "tuple" _) _ _ _) _); refine' tupleF ?q1_m22 ?q2_m22 ?q3_m22 ?a_m22; (case' q1_m22 => assumption); (case' q2_m22 => decide +kernel); (case' q3_m22 => with_reducible assumption); (case' a_m22 => wtm_at "seq"))
  | ((with_reducible show Ev _ _ (.Call (.Name "list" _) _ _ _) _); refine' listF ?q1_m23 ?q2_m23 ?q3_m23 ?a_m23; (case' q1_m23 => assumption); (case' q2_m23 => decide +kernel); (case' q3_m23 => with_reducible assumption); (case' a_m23 => wtm_at "seq"))
  | ((with_reducible show Ev _ _ (.Call (.Name "int" _) _ _ _) _); refine' intBF ?q1_m24 ?q2_m24 ?q3_m24 ?a_m24; (case' q1_m24 => assumption); (case' q2_m24 => decide +kernel); (case' q3_m24 => with_reducible assumption); (case' a_m24 => wtm_at "ev"))
  | ((with_reducible show Ev _ _ (.Call (.Name "max" _) [_, _] _ _) _); refine' max2F ?q1_m25 ?q2_m25 ?q3_m25 ?a_m25; (case' q1_m25 => assumption); (case' q2_m25 => decide +kernel); (case' q3_m25 => with_reducible assumption); (case' a_m25 => wtm_at "args"))
  | ((with_reducible show Ev _ _ (.Call (.Name "min" _) [_, _] _ _) _); refine' min2F ?q1_m26 ?q2_m26 ?q3_m26 ?a_m26; (case' q1_m26 => assumption); (case' q2_m26 => decide +kernel); (case' q3_m26 => with_reducible assumption); (case' a_m26 => wtm_at "args"))
  | ((with_reducible show Ev _ _ (.Call (.Name "isinstance" _) _ _ _) _); refine' isiF ?q1_m27 ?q2_m27 ?q3_m27 ?a_m27 ?q4_m27 ?q5_m27 ?q6_m27 ?q7_m27 ?q8_m27 ?q9_m27; (case' q1_m27 => assumption); (case' a_m27 => wtm_at "ev"); (case' q2_m27 => decide +kernel); (case' q3_m27 => with_reducible assumption); (case' q4_m27 => decide +kernel); (case' q5_m27 => with_reducible assumption); (case' q6_m27 => decide +kernel); (case' q7_m27 => (dsimp only [tyD]; first | (show _ = some true; decide +kernel) | (show _ = some false; decide +kernel))); (case' q8_m27 => decide); (case' q9_m27 => decide))
  | (refine' callF ?q1_m28 ?q2_m28 ?q3_m28 ?q4_m28 ?a_m28 ?r_m28 ?q5_m28; (case' q1_m28 => assumption); (case' q2_m28 => with_reducible assumption); (case' q3_m28 => decide); (case' q4_m28 => decide +kernel); (case' q5_m28 => decide +kernel); (case' a_m28 => wtm_at "args"); (case' r_m28 => wtm_at "R")))
local macro_rules | `(tactic| wtm_at "bools") => `(tactic| first
  | (refine' ev_one ?a_m29; (case' a_m29 => wtm_at "ev"))
  | (refine' ev_and ?a_m30 (fun _ => ?b_m30); (case' a_m30 => wtm_at "ev"); (case' b_m30 => wtm_at "bools"))
  | (refine' ev_or ?a_m31 (fun _ => ?b_m31); (case' a_m31 => wtm_at "ev"); (case' b_m31 => wtm_at "bools")))
local macro_rules | `(tactic| wtm_at "evL") => `(tactic| first
  | (wtm_at "ownl")
  | (refine' evl_new ?eL1; (case' eL1 => first | (wtm_at "evl") | (wtm_at "ev"))))
local macro_rules | `(tactic| wtm_at "ev") => `(tactic| first
  | (wtm_at "nm")
  | exact ev_int
  | ((with_reducible show Ev _ _ (.BinOp (.Tuple _ _ _) .Mult _ _) _); refine' ev_repI ?rp1 ?rp2 ?rp3 ?rp4; (case' rp1 => wtm_at "ev"); (case' rp2 => wtm_at "ev"); (case' rp3 => try (wtm_at "sd")); (case' rp4 => try (wtm_at "sd")))
  | ((with_reducible show Ev _ _ (.BinOp (.List _ _) .Mult _ _) _); refine' ev_repLI ?rq1 ?rq2 ?rq3 ?rq4; (case' rq1 => wtm_at "evL"); (case' rq2 => wtm_at "ev"); (case' rq3 => try (wtm_at "sd")); (case' rq4 => try (wtm_at "sd")))
  | (refine' ev_bin ?a_m32 ?b_m32 ?r_m32; (case' a_m32 => wtm_at "ev"); (case' b_m32 => wtm_at "ev"); (case' r_m32 => wtm_at "bin"))
  | (refine' ev_cmpR ?cm1 ?cm2 ?cm3; (case' cm1 => wtm_at "ev"); (case' cm2 => wtm_at "ev"); (case' cm3 => wtm_at "cmpr"))
  | (wtm_at "call")
  | ((with_reducible show Ev _ _ (.BinOp _ .Add _ _) _); refine' ev_catL ?cl1 ?cl2 ?cl3; (case' cl1 => wtm_at "evL"); (case' cl2 => wtm_at "evL"); (case' cl3 => try (wtm_at "sz")))
  | ((with_reducible refine' ev_takeL ?sa_m70 ?sb_m70 ?sc_m70); (case' sa_m70 => wtm_at "seq"); (case' sb_m70 => wtm_at "ev"); (case' sc_m70 => try (wtm_at "sd")))
  | ((with_reducible refine' ev_dropL ?sa_m71 ?sb_m71 ?sc_m71); (case' sa_m71 => wtm_at "seq"); (case' sb_m71 => wtm_at "ev"); (case' sc_m71 => try (wtm_at "sd")))
  | ((with_reducible refine' ev_midL ?sa_m72 ?sb_m72 ?sc_m72 ?sd_m72 ?se_m72); (case' sa_m72 => wtm_at "seq"); (case' sb_m72 => wtm_at "ev"); (case' sc_m72 => wtm_at "ev"); (case' sd_m72 => try (wtm_at "sd")); (case' se_m72 => try (wtm_at "sd")))
  | ((with_reducible refine' ev_takeT ?sa_m73 ?sb_m73 ?sc_m73); (case' sa_m73 => wtm_at "ev"); (case' sb_m73 => wtm_at "ev"); (case' sc_m73 => try (wtm_at "sd")))
  | ((with_reducible refine' ev_dropT ?sa_m74 ?sb_m74 ?sc_m74); (case' sa_m74 => wtm_at "ev"); (case' sb_m74 => wtm_at "ev"); (case' sc_m74 => try (wtm_at "sd")))
  | ((with_reducible refine' ev_midT ?sa_m75 ?sb_m75 ?sc_m75 ?sd_m75 ?se_m75); (case' sa_m75 => wtm_at "ev"); (case' sb_m75 => wtm_at "ev"); (case' sc_m75 => wtm_at "ev"); (case' sd_m75 => try (wtm_at "sd")); (case' se_m75 => try (wtm_at "sd")))
  | (refine' ev_slL ?a_m34 ?l_m34 ?u_m34; (case' a_m34 => wtm_at "seq"); (case' l_m34 => wtm_at "part"); (case' u_m34 => wtm_at "part"))
  | (refine' ev_slT ?a_m35 ?l_m35 ?u_m35; (case' a_m35 => wtm_at "ev"); (case' l_m35 => wtm_at "part"); (case' u_m35 => wtm_at "part"))
  | (refine' ev_atD ?a_m36 ?b_m36 ?r_m36 ?px_m36; (case' px_m36 => exact fun _ _ => rfl); (case' a_m36 => wtm_at "seq"); (case' b_m36 => wtm_at "ev"); (case' r_m36 => wtm_at "ix"))
  | (refine' ev_tup ?a_m37 ?sd_m37; (case' a_m37 => wtm_at "args"); (case' sd_m37 => wtm_at "sz"))
  | (refine' ev_lst ?a_m38 ?sd_m38; (case' a_m38 => wtm_at "args"); (case' sd_m38 => wtm_at "sz"))
  | exact ev_str
  | exact ev_bl
  | exact ev_non
  | (refine' ev_neg ?a_m39; (case' a_m39 => wtm_at "ev"))
  | (refine' ev_not ?a_m40; (case' a_m40 => wtm_at "ev"))
  | (refine' ev_chainR ?a_m41 ?b_m41 ?c_m41 (cmpR_D ?d_m41) (cmpR_D ?f_m41); (case' a_m41 => wtm_at "ev"); (case' b_m41 => wtm_at "ev"); (case' c_m41 => wtm_at "ev"); (case' d_m41 => wtm_at "cmp"); (case' f_m41 => wtm_at "cmp"))
  | (wtm_at "bools"))
local macro_rules | `(tactic| wtm_at "tw") => `(tactic| first
  | (refine' ew_and1 ?a_m42; (case' a_m42 => wtm_at "test"))
  | (refine' ew_or1 ?a_m43; (case' a_m43 => wtm_at "test"))
  | (refine' ew_and ?a_m44 (fun _ => ?b_m44); (case' a_m44 => wtm_at "test"); (case' b_m44 => wtm_at "tw"))
  | (refine' ew_or ?a_m45 (fun _ => ?b_m45); (case' a_m45 => wtm_at "test"); (case' b_m45 => wtm_at "tw")))
local macro_rules | `(tactic| wtm_at "test") => `(tactic| first
  | (refine' ew_et ?a_m46; (case' a_m46 => wtm_at "tw"))
  | (refine' et_not ?a_m47; (case' a_m47 => wtm_at "test"))
  | (refine' et_cmpR ?ct1 ?ct2 ?ct3; (case' ct1 => wtm_at "ev"); (case' ct2 => wtm_at "ev"); (case' ct3 => wtm_at "cmpr"))
  | (refine' et_chain ?a_m49 ?b_m49 ?c_m49 (cmpR_D ?d_m49) (cmpR_D ?f_m49); (case' a_m49 => wtm_at "ev"); (case' b_m49 => wtm_at "ev"); (case' c_m49 => wtm_at "ev"); (case' d_m49 => wtm_at "cmp"); (case' f_m49 => wtm_at "cmp"))
  | (refine' et_ev ?a_m50; (case' a_m50 => wtm_at "ev"))
  | (refine' et_seq ?a_m51; (case' a_m51 => wtm_at "seq")))
local macro_rules | `(tactic| wtm_at "lec") => `(tactic| first
  | exact LeC.un
  | (with_reducible exact LeC.refl)
  | (refine' LeC.int ?sd_m52; try (case sd_m52 => (first | (wtm_at "sd") | rfl)))
  | (refine' LeC.str ?sd_m53; try (case sd_m53 => (first | (wtm_at "sd") | rfl)))
  | (refine' LeC.tupI ?sd_m54; try (case sd_m54 => (first | (wtm_at "sd") | rfl)))
  | (refine' LeC.tup ?sd_m55; try (case sd_m55 => (first | (wtm_at "sd") | rfl)))
  | (refine' LeC.dat ?sd_m56; try (case sd_m56 => (first | (wtm_at "sd") | rfl)))
  | (refine' LeC.own ?sd_m57; try (case sd_m57 => (first | (wtm_at "sd") | rfl))))
local macro_rules | `(tactic| wtm_at "le") => `(tactic| first
  | exact LeA.nil
  | (refine' LeA.cons ?a_m58 ?b_m58; (case' a_m58 => wtm_at "lec"); (case' b_m58 => wtm_at "le")))
local macro_rules | `(tactic| wtm_at "ret") => `(tactic| first
  | (wtm_at "reto")
  | (refine' s1_retE ?e_m59 ?sd_m59; (case' e_m59 => wtm_at "ev"); try (case sd_m59 => rfl)))
local macro_rules | `(tactic| wtm_at "st") => `(tactic| first | (wtm_at "set") | (wtm_at "app") | (wtm_at "put") | (wtm_at "ret"))
local macro_rules | `(tactic| wtm_at "iter") => `(tactic| first
  | (refine' rangeF ?q1_m60 ?q2_m60 ?q3_m60 ?a_m60 ?sd_m60 ?sd2_m60; (case' q1_m60 => assumption); (case' q2_m60 => decide +kernel); (case' q3_m60 => with_reducible assumption); (case' a_m60 => wtm_at "ev"); (case' sd_m60 => try (wtm_at "sd")); (case' sd2_m60 => try (wtm_at "sd")))
  | (refine' range2F ?q1_m61 ?q2_m61 ?q3_m61 ?a_m61 ?sd_m61 ?sd2_m61 ?sd3_m61 ?sd4_m61; (case' q1_m61 => assumption); (case' q2_m61 => decide +kernel); (case' q3_m61 => with_reducible assumption); (case' a_m61 => wtm_at "args"); (case' sd_m61 => try (wtm_at "sd")); (case' sd2_m61 => try (wtm_at "sd")); (case' sd3_m61 => try (wtm_at "sd")); (case' sd4_m61 => try (wtm_at "sd")))
  | (refine' ei_dat ?a_m62 ?r_m62; (case' a_m62 => wtm_at "ev"); (case' r_m62 => wtm_at "seqd"))
  | (refine' ei_dat (ev_frz ?a_m63) SeqD.lst; (case' a_m63 => wtm_at "ev")))
namespace W
open PySem PySem.Spec PyProof.Rows L2 LR
section
variable {P : Program} {w : World} {K : PySem.W.Frag} {mg : Str → Option Value} {base : Heap}
def lawCell (sc : List Int) (k : Int) : Int := if k < sc.length then sc.getD k.toNat 0 else 0
inductive rCell : List PyData → Res → Prop
  | mk {s : List Int} {k : Int} (h : 0 ≤ k) : rCell [.list (s.map .int), .int k] (.ok (.dat (.int (lawCell s k))))
/-! a prime -/
def smooth (n : Int) : Bool := ((List.range 98).filter fun i : Nat => decide (2 + (i : Int) < n)).any fun i : Nat => decide (n % (2 + (i : Int)) = 0)
def lstep : Nat → Int → Nat
  | 0, _ => 0
  | f + 1, n => if smooth n then lstep f (n + 1) + 1 else 0
theorem lstep_ok : ∀ (k f : Nat) (n : Int), k ≤ f → smooth (n + k) = false → (∀ i, i < lstep f n → smooth (n + i) = true) ∧ smooth (n + lstep f n) = false ∧ lstep f n ≤ k
  | 0, f, n, hf, h => by
    have h0 : smooth n = false := by simpa using h
    cases f with
    | zero => exact ⟨fun i hi => by simp [lstep] at hi, by simpa [lstep] using h0, by simp [lstep]⟩
    | succ f => simp [lstep, h0]
  | k + 1, 0, n, hf, h => by omega
  | k + 1, f + 1, n, hf, h => by
    cases h0 : smooth n with
    | false => simp [lstep, h0]
    | true =>
      have e : n + ((k + 1 : Nat) : Int) = (n + 1) + (k : Int) := by omega
      rw [e] at h
      obtain ⟨a, b, c⟩ := lstep_ok k f (n + 1) (by omega) h
      have e2 : lstep (f + 1) n = lstep f (n + 1) + 1 := by simp [lstep, h0]
      rw [e2]
      refine ⟨fun i hi => ?_, ?_, by omega⟩
      · cases i with
        | zero => simpa using h0
        | succ i =>
          have := a i (by omega)
          have e3 : n + ((i + 1 : Nat) : Int) = (n + 1) + (i : Int) := by omega
          rw [e3]; exact this
      · have e3 : n + ((lstep f (n + 1) + 1 : Nat) : Int) = (n + 1) + (lstep f (n + 1) : Int) := by omega
        rw [e3]; exact b
theorem smooth_9973 : smooth 9973 = false := by decide +kernel
def nextP (n : Int) : Int := n + lstep 10000 n
theorem nextP_ok {n : Int} (h1 : 3 ≤ n) (h2 : n ≤ 9973) : ∃ k : Nat, (∀ i, i < k → smooth (n + i) = true) ∧ smooth (n + k) = false ∧ nextP n = n + k ∧ n + k ≤ 9973 := by
  have e : n + ((9973 - n).toNat : Int) = 9973 := by omega
  obtain ⟨a, b, c⟩ := lstep_ok (9973 - n).toNat 10000 n (by omega) (by rw [e]; exact smooth_9973)
  exact ⟨lstep 10000 n, a, b, rfl, by omega⟩
/-- a prime of the wheel -/
structure Prm (p : Int) : Prop where
  lo : 3 ≤ p
  hi : p ≤ 9999
  no : ∀ d, 2 ≤ d → d < p → p % d ≠ 0
theorem prm_of {n : Int} (h1 : 3 ≤ n) (h2 : n ≤ 9999) (h : smooth n = false) : Prm n := by
  refine ⟨h1, h2, fun d hd hd2 hm => ?_⟩
  have key : ∀ d : Int, 2 ≤ d → d < n → d < 100 → n % d = 0 → False := fun d hd hd2 h100 hm => by
    unfold smooth at h
    rw [List.any_eq_false] at h
    have := h (d - 2).toNat (by
      rw [List.mem_filter]
      exact ⟨List.mem_range.mpr (by omega), decide_eq_true (by omega)⟩)
    have e : 2 + (((d - 2).toNat : Nat) : Int) = d := by omega
    rw [e] at this
    simp [hm] at this
  by_cases h100 : d < 100
  · exact key d hd hd2 h100 hm
  · obtain ⟨q, hq⟩ := Int.dvd_of_emod_eq_zero hm
    have q0 : 0 < q := by
      rcases Int.lt_or_le 0 q with z | z
      · exact z
      · have : d * q ≤ d * 0 := Int.mul_le_mul_of_nonneg_left z (by omega)
        omega
    have q1 : 2 ≤ q := by
      rcases Int.lt_or_le q 2 with z | z
      · have : q = 1 := by omega
        subst this
        omega
      · exact z
    have q100 : q < 100 := by
      rcases Int.lt_or_le q 100 with z | z
      · exact z
      · have : 100 * 100 ≤ d * q := Int.mul_le_mul (by omega) z (by omega) (by omega)
        omega
    refine key q q1 ?_ q100 ?_
    · have : 2 * q ≤ d * q := Int.mul_le_mul_of_nonneg_right hd (by omega)
      omega
    · rw [hq]; exact Int.mul_emod_left d q
def lawPrime (cell : Int) : Int := if cell % 2 = 0 then [3, 5, 7, 11, 13, 17, 19, 23].getD (cell / 2 % 8).toNat 0 else nextP (3 + cell / 2 % 9971)
theorem lawPrime_prm (cell : Int) : Prm (lawPrime cell) ∧ lawPrime cell ≤ 9973 := by
  unfold lawPrime
  split
  · have h : ∀ k, k < 8 → smooth ([3, 5, 7, 11, 13, 17, 19, 23].getD k 0) = false ∧ (3 : Int) ≤ [3, 5, 7, 11, 13, 17, 19, 23].getD k 0 ∧ [3, 5, 7, 11, 13, 17, 19, 23].getD k 0 ≤ (9973 : Int) := by decide +kernel
    obtain ⟨a, b, c⟩ := h (cell / 2 % 8).toNat (by omega)
    exact ⟨prm_of b (by omega) a, c⟩
  · obtain ⟨k, _, b, c, d⟩ := nextP_ok (n := 3 + cell / 2 % 9971) (by omega) (by omega)
    rw [c]
    exact ⟨prm_of (by omega) (by omega) b, d⟩
inductive rPrime : List PyData → Res → Prop
  | mk {c : Int} : rPrime [.int c] (.ok (.dat (.int (lawPrime c))))
theorem et_eq {X : Cx} {A : List C} {e : Expr} {v u : Bool} (h : Et X A e v) (hd : v = u) : Et X A e u := hd ▸ h
theorem evs_eq {X : Cx} {A : List C} {e : Expr} {k : Bool} {ds ds' : List PyData} (h : EvS X A e k ds) (hd : ds = ds') : EvS X A e k ds' := hd ▸ h
local macro_rules | `(tactic| wtm_at "nm") => `(tactic| first
  | ((with_reducible show Ev _ _ (.Name "cell" _) _); exact nmF (by assumption) 0 (by rfl) rfl (by decide +kernel) (by decide +kernel) (by decide +kernel))
  | ((with_reducible show Ev _ _ (.Name "n" _) _); exact nmF (by assumption) 1 (by rfl) rfl (by decide +kernel) (by decide +kernel) (by decide +kernel))
  | ((with_reducible show Ev _ _ (.Name "by" _) _); exact nmF (by assumption) 2 (by rfl) rfl (by decide +kernel) (by decide +kernel) (by decide +kernel)))
local macro_rules | `(tactic| wtm_at "own") => `(tactic| first
  | ((with_reducible show EvS _ _ (.Name "cell" _) _ _); exact ownF (by assumption) 0 (by rfl) rfl (by decide +kernel) (by decide +kernel) (by decide +kernel))
  | ((with_reducible show EvS _ _ (.Name "n" _) _ _); exact ownF (by assumption) 1 (by rfl) rfl (by decide +kernel) (by decide +kernel) (by decide +kernel))
  | ((with_reducible show EvS _ _ (.Name "by" _) _ _); exact ownF (by assumption) 2 (by rfl) rfl (by decide +kernel) (by decide +kernel) (by decide +kernel)))
local macro_rules | `(tactic| wtm_at "ownl") => `(tactic| first
  | ((with_reducible show EvL _ _ (.Name "cell" _) _); exact ownlF (by assumption) 0 (by rfl) rfl (by decide +kernel) (by decide +kernel) (by decide +kernel))
  | ((with_reducible show EvL _ _ (.Name "n" _) _); exact ownlF (by assumption) 1 (by rfl) rfl (by decide +kernel) (by decide +kernel) (by decide +kernel))
  | ((with_reducible show EvL _ _ (.Name "by" _) _); exact ownlF (by assumption) 2 (by rfl) rfl (by decide +kernel) (by decide +kernel) (by decide +kernel)))
local macro_rules | `(tactic| wtm_at "set") => `(tactic| first
  | ((with_reducible show S1 _ _ (.Assign [.Name "cell" _] _ _) _); refine' setF ?st1 ?st2 0 ?st3 ?st4 ?ste ?st5; (case' st1 => assumption); (case' st2 => assumption); (case' st3 => rfl); (case' st4 => decide +kernel); (case' ste => wtm_at "ev"); (case' st5 => rfl))
  | ((with_reducible show S1 _ _ (.Assign [.Name "n" _] _ _) _); refine' setF ?st1 ?st2 1 ?st3 ?st4 ?ste ?st5; (case' st1 => assumption); (case' st2 => assumption); (case' st3 => rfl); (case' st4 => decide +kernel); (case' ste => wtm_at "ev"); (case' st5 => rfl)))
local macro_rules | `(tactic| wtm_at "app") => `(tactic| first
  | ((with_reducible show S1 _ _ (.Expr (.Call (.Attribute (.Name "cell" _) _ _) _ _ _) _) _); refine' appF ?ap1 0 ?ap2 ?ap3 ?ap4 ?ape ?aps ?ap5 ?ap6; (case' ap1 => assumption); (case' ap2 => rfl); (case' ap3 => rfl); (case' ap4 => decide +kernel); (case' ape => wtm_at "ev"); (case' aps => try (wtm_at "sz")); (case' ap5 => decide +kernel); (case' ap6 => decide +kernel))
  | ((with_reducible show S1 _ _ (.Expr (.Call (.Attribute (.Name "n" _) _ _) _ _ _) _) _); refine' appF ?ap1 1 ?ap2 ?ap3 ?ap4 ?ape ?aps ?ap5 ?ap6; (case' ap1 => assumption); (case' ap2 => rfl); (case' ap3 => rfl); (case' ap4 => decide +kernel); (case' ape => wtm_at "ev"); (case' aps => try (wtm_at "sz")); (case' ap5 => decide +kernel); (case' ap6 => decide +kernel)))
local macro_rules | `(tactic| wtm_at "put") => `(tactic| first
  | ((with_reducible show S1 _ _ (.Assign [.Subscript (.Name "cell" _) _ _] _ _) _); refine' putF ?pu1 0 ?pu2 ?pu3 ?pu4 ?pue ?pui ?pu5 ?pu6 ?pu7 ?pu8; (case' pu1 => assumption); (case' pu2 => rfl); (case' pu3 => rfl); (case' pu4 => decide +kernel); (case' pue => wtm_at "ev"); (case' pui => wtm_at "ev"); (case' pu5 => try (wtm_at "sd")); (case' pu6 => try (wtm_at "sd")); (case' pu7 => decide +kernel); (case' pu8 => decide +kernel))
  | ((with_reducible show S1 _ _ (.Assign [.Subscript (.Name "n" _) _ _] _ _) _); refine' putF ?pu1 1 ?pu2 ?pu3 ?pu4 ?pue ?pui ?pu5 ?pu6 ?pu7 ?pu8; (case' pu1 => assumption); (case' pu2 => rfl); (case' pu3 => rfl); (case' pu4 => decide +kernel); (case' pue => wtm_at "ev"); (case' pui => wtm_at "ev"); (case' pu5 => try (wtm_at "sd")); (case' pu6 => try (wtm_at "sd")); (case' pu7 => decide +kernel); (case' pu8 => decide +kernel)))
local macro_rules | `(tactic| wtm_at "reto") => `(tactic| first
  | ((with_reducible show S1 _ _ (.Return (some (.Name "cell" _)) _) _); exact retOF (by assumption) 0 (by rfl) rfl (by decide +kernel) (by decide +kernel) (by decide +kernel))
  | ((with_reducible show S1 _ _ (.Return (some (.Name "n" _)) _) _); exact retOF (by assumption) 1 (by rfl) rfl (by decide +kernel) (by decide +kernel) (by decide +kernel)))
local macro_rules | `(tactic| wtm_at "tgt") => `(tactic| first
  | ((with_reducible show PG _ (.Name "cell" _) _); exact tgF (by assumption) (by assumption) 0 (by rfl) (by decide +kernel))
  | ((with_reducible show PG _ (.Name "n" _) _); exact tgF (by assumption) (by assumption) 1 (by rfl) (by decide +kernel)))
theorem ok_prime {f : Addr} {fd : FuncData} (F : Fun K "_law_prime" "_law_prime" s__law_prime f fd) (hm : mg "_law_prime" = some (.ref f)) (b : Binds K fd ["cell"] []) (ma : mg "any" = none) (mr : mg "range" = none) : Fn P w K mg base 1 "_law_prime" ["cell"] rPrime := by
  refine fnF F hm b sc__law_prime (fun ds r h => by cases h; rfl) fun X hX hT ds r h => ?_
  cases h with
  | @mk c =>
    by_cases hc : c % 2 = 0
    · refine' sm_end (s1_if ?c (fun _ => sm_end ?s1) fun h => ?f)
      case' c => wtm_at "test"
      case f => simp [hc] at h
      case' s1 =>
        rw [lawPrime, if_pos hc]
        refine' s1_ret ?ra
        case' ra =>
          refine' ev_atD (ds := ([3, 5, 7, 11, 13, 17, 19, 23] : List Int).map .int) ?a ?b ?r ?x
          case' x => exact fun _ _ => rfl
          case' a =>
            refine' evs_tup ?a0
            case' a0 =>
              refine' ev_tup ?b1 ?b2
              case' b1 => wtm_at "args"
              case' b2 => decide +kernel
          case' b => wtm_at "ev"
          case' r => wtm_at "ix"
    · refine' sm_cons (s1_if ?c2 (fun h => ?f2) fun _ => sm_nil) ?_
      case' c2 => wtm_at "test"
      case f2 => simp [hc] at h
      rw [lawPrime, if_neg hc]
      refine' sm_cons ?sn ?_
      case' sn => wtm_at "st"
      generalize hn : 3 + c / 2 % 9971 = n
      obtain ⟨m, n1, n2, n3, n4⟩ := nextP_ok (n := n) (by omega) (by omega)
      rw [n3]
      refine' sm_cons ?w ?_
      case' w =>
        refine' whileV hX (fun i => [.dat (.int c), .dat (.int (n + i)), .un]) m (fun i => smooth (n + i)) ?l (fun i _ => ?t) n1 n2 fun i hi => ?s2
        case' l => wtm_at "le"
        case' t =>
          refine' et_ev ?v0
          case' v0 =>
           refine' ev_eq ?v1 ?e0
           case' v1 =>
            refine' anyF hX ?g0 ma ?s0
            case' g0 => decide +kernel
          case' s0 =>
            refine' evs_eq (evs_new ?a2) ?e2
            case' a2 =>
              refine' lcIf hX 2 (List.range 98) (fun j : Nat => .int (2 + (j : Int))) (fun j : Nat => decide (2 + (j : Int) < n + i)) (fun j : Nat => .bool (decide ((n + i) % (2 + (j : Int)) = 0))) ?i ?sr ?ok ?nn ?lx ?zz ?jj fun Y hY z hz => ⟨?t1, fun _ => ?e1⟩
              case' i => wtm_at "iter"
              case' sr => rfl
              case' ok => decide +kernel
              case' nn => rfl
              case' lx => decide +kernel
              case' zz => decide +kernel
              case' jj => rfl
              case' t1 => wtm_at "test"
              case' e1 => wtm_at "ev"
            case e2 => exact (List.map_map (f := fun j : Nat => decide ((n + i) % (2 + (j : Int)) = 0)) (g := PyData.bool)).symm
          case e0 => simp [smooth, List.any_map, Function.comp_def]
        case' s2 =>
          refine' sm_le (sm_one ?s3) ?l3
          case' s3 => wtm_at "st"
          case' l3 => wtm_at "le"
      refine' sm_end ?s4
      case' s4 => wtm_at "st"
/-! digits -/
def dcell (c P : Int) : Nat → Int
  | 0 => c
  | k + 1 => dcell c P k / P
def lawDigits (c P : Int) (n : Nat) : List Int := (List.range n).map fun j => dcell c P j % P
theorem lawDigits_succ (c P : Int) (n : Nat) : lawDigits c P (n + 1) = lawDigits c P n ++ [dcell c P n % P] := by
  unfold lawDigits; rw [List.range_succ, List.map_append]; rfl
theorem lawDigits_len (c P : Int) (n : Nat) : (lawDigits c P n).length = n := by simp [lawDigits]
theorem lawDigits_mem {c P : Int} {n : Nat} (hP : 0 < P) : ∀ x ∈ lawDigits c P n, 0 ≤ x ∧ x < P := fun x hx => by
  unfold lawDigits at hx
  rw [List.mem_map] at hx
  obtain ⟨j, _, rfl⟩ := hx
  exact ⟨Int.emod_nonneg _ (by omega), Int.emod_lt_of_pos _ hP⟩
inductive rDigits : List PyData → Res → Prop
  | mk {c P n : Int} (h : 0 < P) (h2 : P < 1073741824) (h0 : 0 ≤ n) (hn : n ≤ 1000) : rDigits [.int c, .int P, .int n] (.ok (.dat (tI (lawDigits c P n.toNat))))
def isInt : PyData → Bool
  | .int _ => true
  | _ => false
inductive rWhole : List PyData → Res → Prop
  | mk {i : Int} : rWhole [.int i] (.ok (.dat (.bool true)))
local macro_rules | `(tactic| wtm_at "nm") => `(tactic| first
  | ((with_reducible show Ev _ _ (.Name "found" _) _); exact nmF (by assumption) 0 (by rfl) rfl (by decide +kernel) (by decide +kernel) (by decide +kernel)))
local macro_rules | `(tactic| wtm_at "own") => `(tactic| first
  | ((with_reducible show EvS _ _ (.Name "found" _) _ _); exact ownF (by assumption) 0 (by rfl) rfl (by decide +kernel) (by decide +kernel) (by decide +kernel)))
local macro_rules | `(tactic| wtm_at "ownl") => `(tactic| first
  | ((with_reducible show EvL _ _ (.Name "found" _) _); exact ownlF (by assumption) 0 (by rfl) rfl (by decide +kernel) (by decide +kernel) (by decide +kernel)))
local macro_rules | `(tactic| wtm_at "set") => `(tactic| first
  | ((with_reducible show S1 _ _ (.Assign [.Name "found" _] _ _) _); refine' setF ?st1 ?st2 0 ?st3 ?st4 ?ste ?st5; (case' st1 => assumption); (case' st2 => assumption); (case' st3 => rfl); (case' st4 => decide +kernel); (case' ste => wtm_at "ev"); (case' st5 => rfl)))
local macro_rules | `(tactic| wtm_at "app") => `(tactic| first
  | ((with_reducible show S1 _ _ (.Expr (.Call (.Attribute (.Name "found" _) _ _) _ _ _) _) _); refine' appF ?ap1 0 ?ap2 ?ap3 ?ap4 ?ape ?aps ?ap5 ?ap6; (case' ap1 => assumption); (case' ap2 => rfl); (case' ap3 => rfl); (case' ap4 => decide +kernel); (case' ape => wtm_at "ev"); (case' aps => try (wtm_at "sz")); (case' ap5 => decide +kernel); (case' ap6 => decide +kernel)))
local macro_rules | `(tactic| wtm_at "put") => `(tactic| first
  | ((with_reducible show S1 _ _ (.Assign [.Subscript (.Name "found" _) _ _] _ _) _); refine' putF ?pu1 0 ?pu2 ?pu3 ?pu4 ?pue ?pui ?pu5 ?pu6 ?pu7 ?pu8; (case' pu1 => assumption); (case' pu2 => rfl); (case' pu3 => rfl); (case' pu4 => decide +kernel); (case' pue => wtm_at "ev"); (case' pui => wtm_at "ev"); (case' pu5 => try (wtm_at "sd")); (case' pu6 => try (wtm_at "sd")); (case' pu7 => decide +kernel); (case' pu8 => decide +kernel)))
local macro_rules | `(tactic| wtm_at "reto") => `(tactic| first
  | ((with_reducible show S1 _ _ (.Return (some (.Name "found" _)) _) _); exact retOF (by assumption) 0 (by rfl) rfl (by decide +kernel) (by decide +kernel) (by decide +kernel)))
local macro_rules | `(tactic| wtm_at "tgt") => `(tactic| first
  | ((with_reducible show PG _ (.Name "found" _) _); exact tgF (by assumption) (by assumption) 0 (by rfl) (by decide +kernel)))
theorem ok_whole {f : Addr} {fd : FuncData} (F : Fun K "_law_whole" "_law_whole" s__law_whole f fd) (hm : mg "_law_whole" = some (.ref f)) (b : Binds K fd ["found"] []) (mi : mg "isinstance" = none) (m1 : mg "int" = none) (m2 : mg "bool" = none) : Fn P w K mg base 1 "_law_whole" ["found"] rWhole := by
  refine fnF F hm b sc__law_whole (fun ds r h => by cases h; rfl) fun X hX hT ds r h => ?_
  cases h with
  | @mk i =>
    refine' sm_end ?s1
    case' s1 => wtm_at "st"
end
end W

namespace W
open PySem PySem.Spec PyProof.Rows L2 LR
/-- none of these classes -/
def NoneOf (K : PySem.W.Frag) (D : Addr) : List Addr → Prop
  | [] => True
  | c :: r => PySem.W.kitOne K (.ref D) (.ref c) = some false ∧ NoneOf K D r
theorem none_of {K : PySem.W.Frag} {D : Addr} : ∀ {cs : List Addr}, NoneOf K D cs → ∀ us, Vals (cs.map V.ref) us → PySem.W.kitAny K (.ref D) us = some false
  | [], _, us, h => by
    cases h
    rw [PySem.W.kitAny]
  | c :: r, h, us, hv => by
    cases hv with
    | cons a b =>
      cases a
      rw [PySem.W.kitAny, h.1]
      exact none_of h.2 _ b
end W

namespace W
open PySem PySem.Spec PyProof.Rows L2 LR
theorem encB01 : Enc PyData.bool 0 where
  lay := fun x => by simp [PyData.canLay0]
  dep := fun x => by simp [PyData.depth]
  eqv := fun x y => by cases x <;> cases y <;> simp [PyData.eqv]
def isWh : PyData → Bool
  | .int _ => true
  | _ => false
theorem ixD {ds : List PyData} {i : Int} (h0 : 0 ≤ i) (h1 : i < ds.length) : IxD ds i (ds.getD i.toNat .none) := .lit (by
  obtain ⟨k, rfl⟩ := Int.eq_ofNat_of_zero_le h0
  have h2 : k < ds.length := by omega
  refine atI_nat ?_
  rw [Int.toNat_natCast, List.getD_eq_getElem?_getD, List.getElem?_eq_getElem h2]
  rfl)
def oddThings : List PyData := [.none, .bool true, .bool false, .str "7", .tuple [.int 7], .list [.int 7], .dict [], .tuple [], .list [], .dict []]
def lawThing (c : Int) : PyData :=
  if c % 6 = 0 then .int (3 + c / 6 % 9997) else if c % 6 = 1 then .int (lawPrime (c / 6)) else if c % 6 = 2 then .int ((2 + c / 6 % 98) * (2 + c / 6 / 98 % 98)) else if c % 6 = 3 then .int (2 - c / 6 % 10 ^ (59 : Int).toNat)
  else if c % 6 = 4 then .int (10000 + c / 6 % 10 ^ (59 : Int).toNat) else oddThings.getD (c / 6 % 10).toNat .none
/-- .. that are handed about -/
def thingD : PyData → Prop
  | .int _ => True
  | .none => True
  | .bool _ => True
  | .str _ => True
  | .tuple _ => True
  | .list _ => True
  | .dict _ => True
theorem lawThing_wh (c : Int) : isWh (lawThing c) = decide (c % 6 < 5) := by
  unfold lawThing
  by_cases h0 : c % 6 = 0
  · rw [if_pos h0, h0]; rfl
  by_cases h1 : c % 6 = 1
  · rw [if_neg h0, if_pos h1, h1]; rfl
  by_cases h2 : c % 6 = 2
  · rw [if_neg h0, if_neg h1, if_pos h2, h2]; rfl
  by_cases h3 : c % 6 = 3
  · rw [if_neg h0, if_neg h1, if_neg h2, if_pos h3, h3]; rfl
  by_cases h4 : c % 6 = 4
  · rw [if_neg h0, if_neg h1, if_neg h2, if_neg h3, if_pos h4, h4]; rfl
  · rw [if_neg h0, if_neg h1, if_neg h2, if_neg h3, if_neg h4, decide_eq_false (by omega)]
    have key : ∀ k : Nat, k < 10 → isWh (oddThings.getD k .none) = false := by
      intro k hk
      rcases (show k = 0 ∨ k = 1 ∨ k = 2 ∨ k = 3 ∨ k = 4 ∨ k = 5 ∨ k = 6 ∨ k = 7 ∨ k = 8 ∨ k = 9 by omega) with rfl | rfl | rfl | rfl | rfl | rfl | rfl | rfl | rfl | rfl <;> rfl
    exact key _ (by omega)
/-- the prime's law told by what divides -/
theorem smooth_not {n : Int} (h : smooth n = true) : ¬ Prm n := fun hp => by
  unfold smooth at h
  rw [List.any_eq_true] at h
  obtain ⟨i, hi, hd⟩ := h
  obtain ⟨h1, h2⟩ := List.mem_filter.mp hi
  exact hp.no (2 + i) (by omega) (of_decide_eq_true h2) (of_decide_eq_true hd)
noncomputable def prmB (n : Int) : Bool := decide (3 ≤ n) && decide (n ≤ 9999) && !smooth n
theorem prmB_iff {n : Int} : prmB n = true ↔ Prm n := by
  unfold prmB
  simp only [Bool.and_eq_true, decide_eq_true_eq, Bool.not_eq_true']
  constructor
  · rintro ⟨⟨a, b⟩, c⟩; exact prm_of a b c
  · intro h
    refine ⟨⟨h.lo, h.hi⟩, ?_⟩
    cases e : smooth n with
    | false => rfl
    | true => exact absurd h (smooth_not e)
/-- the loop of prime -/
theorem prm_walk {q : Int} (h2 : 3 ≤ q) (h9 : q ≤ 9999) : (Prm q ∧ ∃ k : Nat, k ≤ 100 ∧ (∀ i : Nat, i < k → decide ((2 + (i : Int)) * (2 + i) ≤ q) = true) ∧ decide ((2 + (k : Int)) * (2 + k) ≤ q) = false) ∨
    (¬ Prm q ∧ ∃ k : Nat, k ≤ 100 ∧ (∀ i : Nat, i < k → decide ((2 + (i : Int)) * (2 + i) ≤ q) = true ∧ q % (2 + i) ≠ 0) ∧ decide ((2 + (k : Int)) * (2 + k) ≤ q) = true ∧ q % (2 + k) = 0) := by
  obtain ⟨k, k9, k1, k2⟩ := first_not (fun i : Nat => decide ((2 + (i : Int)) * (2 + i) ≤ q) && !decide (q % (2 + i) = 0)) 100 (by
    rw [Bool.and_eq_false_iff]; exact .inl (decide_eq_false (by omega)))
  have k1' : ∀ i : Nat, i < k → decide ((2 + (i : Int)) * (2 + i) ≤ q) = true ∧ q % (2 + i) ≠ 0 := fun i hi => by
    have := k1 i hi
    simp only [Bool.and_eq_true, Bool.not_eq_true', decide_eq_false_iff_not] at this
    exact this
  by_cases hs : decide ((2 + (k : Int)) * (2 + k) ≤ q) = true
  · have hd : q % (2 + k) = 0 := by
      have e : (decide ((2 + (k : Int)) * (2 + k) ≤ q) && !decide (q % (2 + k) = 0)) = false := k2
      rw [hs, Bool.true_and] at e
      have e2 : decide (q % (2 + (k : Int)) = 0) = true := by
        cases e3 : decide (q % (2 + (k : Int)) = 0) with
        | true => rfl
        | false => rw [e3] at e; cases e
      exact of_decide_eq_true e2
    refine .inr ⟨fun hp => ?_, k, k9, k1', hs, hd⟩
    have hsq := of_decide_eq_true hs
    have hlt : 2 + (k : Int) < q := by
      have : 2 * (2 + (k : Int)) ≤ (2 + (k : Int)) * (2 + k) := Int.mul_le_mul_of_nonneg_right (by omega) (by omega)
      omega
    exact hp.no (2 + k) (by omega) hlt hd
  · have hs2 : decide ((2 + (k : Int)) * (2 + k) ≤ q) = false := by
      cases e : decide ((2 + (k : Int)) * (2 + k) ≤ q) with
      | false => rfl
      | true => exact absurd e hs
    refine .inl ⟨⟨h2, h9, fun d d2 dq hd => ?_⟩, k, k9, fun i hi => (k1' i hi).1, hs2⟩
    have hns := of_decide_eq_false hs2
    -- a divisor, or its partner, is below 2 + k
    have small : ∀ d : Int, 2 ≤ d → d < 2 + k → q % d = 0 → False := fun d d2 dk hd => by
      have := (k1' (d - 2).toNat (by omega)).2
      rw [show 2 + (((d - 2).toNat : Nat) : Int) = d by omega] at this
      exact this hd
    rcases Int.lt_or_le d (2 + k) with z | z
    · exact small d d2 z hd
    · obtain ⟨e, he⟩ := Int.dvd_of_emod_eq_zero hd
      have e1 : 2 ≤ e := by
        refine Classical.byContradiction fun hn => ?_
        have : d * e ≤ d * 1 := Int.mul_le_mul_of_nonneg_left (by omega) (by omega)
        omega
      have e2 : e < 2 + k := by
        refine Classical.byContradiction fun hn => ?_
        have : (2 + (k : Int)) * (2 + k) ≤ d * e := Int.mul_le_mul z (by omega) (by omega) (by omega)
        omega
      refine small e e1 e2 ?_
      rw [he]; exact Int.mul_emod_left d e
section
variable {P : Program} {w : World} {K : PySem.W.Frag} {mg : Str → Option Value} {base : Heap}
inductive rIsWA : List PyData → Res → Prop
  | mk {d : PyData} : rIsWA [d] (.ok (.dat (.bool (isWh d))))
local macro_rules | `(tactic| wtm_at "nm") => `(tactic| first
  | ((with_reducible show Ev _ _ (.Name "thing" _) _); exact nmF (by assumption) 0 (by rfl) rfl (by decide +kernel) (by decide +kernel) (by decide +kernel)))
local macro_rules | `(tactic| wtm_at "own") => `(tactic| first
  | ((with_reducible show EvS _ _ (.Name "thing" _) _ _); exact ownF (by assumption) 0 (by rfl) rfl (by decide +kernel) (by decide +kernel) (by decide +kernel)))
local macro_rules | `(tactic| wtm_at "ownl") => `(tactic| first
  | ((with_reducible show EvL _ _ (.Name "thing" _) _); exact ownlF (by assumption) 0 (by rfl) rfl (by decide +kernel) (by decide +kernel) (by decide +kernel)))
local macro_rules | `(tactic| wtm_at "set") => `(tactic| first
  | ((with_reducible show S1 _ _ (.Assign [.Name "thing" _] _ _) _); refine' setF ?st1 ?st2 0 ?st3 ?st4 ?ste ?st5; (case' st1 => assumption); (case' st2 => assumption); (case' st3 => rfl); (case' st4 => decide +kernel); (case' ste => wtm_at "ev"); (case' st5 => rfl)))
local macro_rules | `(tactic| wtm_at "app") => `(tactic| first
  | ((with_reducible show S1 _ _ (.Expr (.Call (.Attribute (.Name "thing" _) _ _) _ _ _) _) _); refine' appF ?ap1 0 ?ap2 ?ap3 ?ap4 ?ape ?aps ?ap5 ?ap6; (case' ap1 => assumption); (case' ap2 => rfl); (case' ap3 => rfl); (case' ap4 => decide +kernel); (case' ape => wtm_at "ev"); (case' aps => try (wtm_at "sz")); (case' ap5 => decide +kernel); (case' ap6 => decide +kernel)))
local macro_rules | `(tactic| wtm_at "put") => `(tactic| first
  | ((with_reducible show S1 _ _ (.Assign [.Subscript (.Name "thing" _) _ _] _ _) _); refine' putF ?pu1 0 ?pu2 ?pu3 ?pu4 ?pue ?pui ?pu5 ?pu6 ?pu7 ?pu8; (case' pu1 => assumption); (case' pu2 => rfl); (case' pu3 => rfl); (case' pu4 => decide +kernel); (case' pue => wtm_at "ev"); (case' pui => wtm_at "ev"); (case' pu5 => try (wtm_at "sd")); (case' pu6 => try (wtm_at "sd")); (case' pu7 => decide +kernel); (case' pu8 => decide +kernel)))
local macro_rules | `(tactic| wtm_at "reto") => `(tactic| first
  | ((with_reducible show S1 _ _ (.Return (some (.Name "thing" _)) _) _); exact retOF (by assumption) 0 (by rfl) rfl (by decide +kernel) (by decide +kernel) (by decide +kernel)))
local macro_rules | `(tactic| wtm_at "tgt") => `(tactic| first
  | ((with_reducible show PG _ (.Name "thing" _) _); exact tgF (by assumption) (by assumption) 0 (by rfl) (by decide +kernel)))
theorem ok_is_whole {f : Addr} {fd : FuncData} (F : Fun K "is_whole" "is_whole" s_is_whole f fd) (hm : mg "is_whole" = some (.ref f)) (b : Binds K fd ["thing"] []) (mi : mg "isinstance" = none) (m1 : mg "int" = none) (m2 : mg "bool" = none) : Fn P w K mg base 1 "is_whole" ["thing"] rIsWA := by
  refine fnF F hm b sc_is_whole (fun ds r h => by cases h; rfl) fun X hX hT ds r h => ?_
  cases h with
  | @mk d =>
    cases d with
    | int i =>
      refine' sm_end ?e1
      case' e1 => wtm_at "st"
    | bool i =>
      refine' sm_end ?e2
      case' e2 => wtm_at "st"
    | none =>
      refine' sm_end ?e3
      case' e3 => wtm_at "st"
    | str z =>
      refine' sm_end ?e4
      case' e4 => wtm_at "st"
    | tuple z =>
      refine' sm_end ?e5
      case' e5 => wtm_at "st"
    | list z =>
      refine' sm_end ?e6
      case' e6 => wtm_at "st"
    | dict z =>
      refine' sm_end ?e7
      case' e7 => wtm_at "st"
inductive rPrimeA : List PyData → Res → Prop
  | mk {p : Int} (hp : Prm p) : rPrimeA [.int p] (.ok (.dat (.int p)))
  | no {p : Int} (hp : ¬ Prm p) : rPrimeA [.int p] (.ex "NoPrime")
  | odd {d : PyData} (h : isWh d = false) : rPrimeA [d] (.ex "NoPrime")
local macro_rules | `(tactic| wtm_at "R") => `(tactic| first
  | ((with_reducible apply rIsWA.mk) <;> first | (with_reducible assumption) | omega)
  | (constructor; all_goals try (wtm_at "sd")))
local macro_rules | `(tactic| wtm_at "nm") => `(tactic| first
  | ((with_reducible show Ev _ _ (.Name "thing" _) _); exact nmF (by assumption) 0 (by rfl) rfl (by decide +kernel) (by decide +kernel) (by decide +kernel))
  | ((with_reducible show Ev _ _ (.Name "by" _) _); exact nmF (by assumption) 1 (by rfl) rfl (by decide +kernel) (by decide +kernel) (by decide +kernel)))
local macro_rules | `(tactic| wtm_at "own") => `(tactic| first
  | ((with_reducible show EvS _ _ (.Name "thing" _) _ _); exact ownF (by assumption) 0 (by rfl) rfl (by decide +kernel) (by decide +kernel) (by decide +kernel))
  | ((with_reducible show EvS _ _ (.Name "by" _) _ _); exact ownF (by assumption) 1 (by rfl) rfl (by decide +kernel) (by decide +kernel) (by decide +kernel)))
local macro_rules | `(tactic| wtm_at "ownl") => `(tactic| first
  | ((with_reducible show EvL _ _ (.Name "thing" _) _); exact ownlF (by assumption) 0 (by rfl) rfl (by decide +kernel) (by decide +kernel) (by decide +kernel))
  | ((with_reducible show EvL _ _ (.Name "by" _) _); exact ownlF (by assumption) 1 (by rfl) rfl (by decide +kernel) (by decide +kernel) (by decide +kernel)))
local macro_rules | `(tactic| wtm_at "set") => `(tactic| first
  | ((with_reducible show S1 _ _ (.Assign [.Name "thing" _] _ _) _); refine' setF ?st1 ?st2 0 ?st3 ?st4 ?ste ?st5; (case' st1 => assumption); (case' st2 => assumption); (case' st3 => rfl); (case' st4 => decide +kernel); (case' ste => wtm_at "ev"); (case' st5 => rfl))
  | ((with_reducible show S1 _ _ (.Assign [.Name "by" _] _ _) _); refine' setF ?st1 ?st2 1 ?st3 ?st4 ?ste ?st5; (case' st1 => assumption); (case' st2 => assumption); (case' st3 => rfl); (case' st4 => decide +kernel); (case' ste => wtm_at "ev"); (case' st5 => rfl)))
local macro_rules | `(tactic| wtm_at "app") => `(tactic| first
  | ((with_reducible show S1 _ _ (.Expr (.Call (.Attribute (.Name "thing" _) _ _) _ _ _) _) _); refine' appF ?ap1 0 ?ap2 ?ap3 ?ap4 ?ape ?aps ?ap5 ?ap6; (case' ap1 => assumption); (case' ap2 => rfl); (case' ap3 => rfl); (case' ap4 => decide +kernel); (case' ape => wtm_at "ev"); (case' aps => try (wtm_at "sz")); (case' ap5 => decide +kernel); (case' ap6 => decide +kernel))
  | ((with_reducible show S1 _ _ (.Expr (.Call (.Attribute (.Name "by" _) _ _) _ _ _) _) _); refine' appF ?ap1 1 ?ap2 ?ap3 ?ap4 ?ape ?aps ?ap5 ?ap6; (case' ap1 => assumption); (case' ap2 => rfl); (case' ap3 => rfl); (case' ap4 => decide +kernel); (case' ape => wtm_at "ev"); (case' aps => try (wtm_at "sz")); (case' ap5 => decide +kernel); (case' ap6 => decide +kernel)))
local macro_rules | `(tactic| wtm_at "put") => `(tactic| first
  | ((with_reducible show S1 _ _ (.Assign [.Subscript (.Name "thing" _) _ _] _ _) _); refine' putF ?pu1 0 ?pu2 ?pu3 ?pu4 ?pue ?pui ?pu5 ?pu6 ?pu7 ?pu8; (case' pu1 => assumption); (case' pu2 => rfl); (case' pu3 => rfl); (case' pu4 => decide +kernel); (case' pue => wtm_at "ev"); (case' pui => wtm_at "ev"); (case' pu5 => try (wtm_at "sd")); (case' pu6 => try (wtm_at "sd")); (case' pu7 => decide +kernel); (case' pu8 => decide +kernel))
  | ((with_reducible show S1 _ _ (.Assign [.Subscript (.Name "by" _) _ _] _ _) _); refine' putF ?pu1 1 ?pu2 ?pu3 ?pu4 ?pue ?pui ?pu5 ?pu6 ?pu7 ?pu8; (case' pu1 => assumption); (case' pu2 => rfl); (case' pu3 => rfl); (case' pu4 => decide +kernel); (case' pue => wtm_at "ev"); (case' pui => wtm_at "ev"); (case' pu5 => try (wtm_at "sd")); (case' pu6 => try (wtm_at "sd")); (case' pu7 => decide +kernel); (case' pu8 => decide +kernel)))
local macro_rules | `(tactic| wtm_at "reto") => `(tactic| first
  | ((with_reducible show S1 _ _ (.Return (some (.Name "thing" _)) _) _); exact retOF (by assumption) 0 (by rfl) rfl (by decide +kernel) (by decide +kernel) (by decide +kernel))
  | ((with_reducible show S1 _ _ (.Return (some (.Name "by" _)) _) _); exact retOF (by assumption) 1 (by rfl) rfl (by decide +kernel) (by decide +kernel) (by decide +kernel)))
local macro_rules | `(tactic| wtm_at "tgt") => `(tactic| first
  | ((with_reducible show PG _ (.Name "thing" _) _); exact tgF (by assumption) (by assumption) 0 (by rfl) (by decide +kernel))
  | ((with_reducible show PG _ (.Name "by" _) _); exact tgF (by assumption) (by assumption) 1 (by rfl) (by decide +kernel)))
theorem ok_primeA {f : Addr} {fd : FuncData} (F : Fun K "prime" "prime" s_prime f fd) (hm : mg "prime" = some (.ref f)) (b : Binds K fd ["thing"] []) (xN : XC K mg "NoPrime") (Giw : Fn P w K mg base 1 "is_whole" ["thing"] rIsWA) : Fn P w K mg base 2 "prime" ["thing"] rPrimeA := by
  refine fnF F hm b sc_prime (fun ds r h => by cases h <;> rfl) fun X hX hT ds r h => ?_
  have bad : ∀ d : PyData, isWh d = false → ∃ A', Sm X (A0 ["thing", "by"] [d]) (defBody s_prime) (.ex "NoPrime" A') := fun d hd => by
    refine ⟨[.dat d, .un], ?_⟩
    refine' sm_end (s1_if (v := true) ?c1 (fun _ => sm_end (raiseF hX hT xN ?r1 ?r2)) fun h => nomatch h)
    case' c1 =>
      refine' ew_et (ew_or (v := true) (u := true) (et_eq (et_not (et_ev (callF hX Giw (by decide) ?d1 ?e1 (rIsWA.mk (d := d)) ?f1))) ?g1) fun h => nomatch h)
      case' d1 => decide +kernel
      case' e1 => wtm_at "args"
      case' f1 => decide +kernel
      case g1 => rw [hd]; rfl
    case' r1 => decide +kernel
    case' r2 => decide +kernel
  have far : ∀ p : Int, ¬ (3 ≤ p ∧ p ≤ 9999) → ∃ A', Sm X (A0 ["thing", "by"] [.int p]) (defBody s_prime) (.ex "NoPrime" A') := fun p hp => by
    refine ⟨[.dat (.int p), .un], ?_⟩
    refine' sm_end (s1_if (v := true) ?c2 (fun _ => sm_end (raiseF hX hT xN ?r3 ?r4)) fun h => nomatch h)
    case' c2 =>
      refine' et_eq ?d2 ?e2
      case' d2 => wtm_at "test"
      case e2 =>
        by_cases z1 : p < 3
        · simp [isWh, z1]
        · have z2 : 9999 < p := by omega
          simp [isWh, z1, z2]
    case' r3 => decide +kernel
    case' r4 => decide +kernel
  have near : ∀ p : Int, 3 ≤ p ∧ p ≤ 9999 → ∀ o, Sm X [.dat (.int p), .dat (.int 2)] ((defBody s_prime).drop 2) o → Sm X (A0 ["thing", "by"] [.int p]) (defBody s_prime) o := fun p hp o h => by
    refine' sm_cons (s1_if (v := false) ?c3 (fun h => nomatch h) fun _ => sm_nil) ?_
    case' c3 =>
      refine' et_eq ?d3 ?e3
      case' d3 => wtm_at "test"
      case e3 =>
        have z1 : ¬ p < 3 := by omega
        have z2 : ¬ 9999 < p := by omega
        simp [isWh, z1, z2]
    refine' sm_cons (A1 := [.dat (.int p), .dat (.int 2)]) ?s4 h
    case' s4 => wtm_at "st"
  cases h with
  | @odd d hd => exact bad d hd
  | @mk p hp =>
    have p3 := hp.lo
    have p9 := hp.hi
    rcases prm_walk p3 p9 with ⟨_, k, k9, k1, k2⟩ | ⟨hn, _⟩
    · refine near p ⟨p3, p9⟩ _ ?_
      refine' sm_cons ?s5 ?_
      case' s5 =>
        refine' whileV hX (fun i => [.dat (.int p), .dat (.int (2 + (i : Int)))]) k (fun i => decide ((2 + (i : Int)) * (2 + i) ≤ p)) ?l (fun i hi => ?t) k1 k2 fun i hi => ?b6
        case' l => wtm_at "le"
        case' t =>
          have hc : CMul (2 + (i : Int)) (2 + i) := .inl (by omega)
          wtm_at "test"
        have hsq := of_decide_eq_true (k1 i hi)
        have hlt : 2 + (i : Int) < p := by
          have : 2 * (2 + (i : Int)) ≤ (2 + (i : Int)) * (2 + i) := Int.mul_le_mul_of_nonneg_right (by omega) (by omega)
          omega
        have hd := hp.no (2 + i) (by omega) hlt
        have p0 : 0 < 2 + (i : Int) := by omega
        refine' sm_cons (s1_if ?c7 (fun h => ?f7) fun _ => sm_nil) ?_
        case' c7 => wtm_at "test"
        case f7 => exact absurd (of_decide_eq_true h) hd
        refine' sm_le (sm_one ?s8) ?l8
        case' s8 => wtm_at "st"
        case' l8 => wtm_at "le"
      refine' sm_end ?s9
      case' s9 => wtm_at "st"
    · exact absurd hp hn
  | @no p hp =>
    by_cases hr : 3 ≤ p ∧ p ≤ 9999
    · rcases prm_walk hr.1 hr.2 with ⟨hn, _⟩ | ⟨_, k, k9, k1, k2, k3⟩
      · exact absurd hn hp
      · refine ⟨[.dat (.int p), .dat (.int (2 + (k : Int)))], near p hr _ ?_⟩
        have sq : ∀ i : Nat, i ≤ k → CMul (2 + (i : Int)) (2 + i) := fun i hi => .inl (by omega)
        refine' sm_end (whileFx hX (fun i => [.dat (.int p), .dat (.int (2 + (i : Int)))]) k ?l10 (fun i hi => ⟨?t10, ?b10⟩) ?t11 ?b11 (ExitOf.ex _ _))
        case' l10 => wtm_at "le"
        case' t10 =>
          have hc := sq i (by omega)
          refine' et_eq ?t12 (k1 i hi).1
          case' t12 => wtm_at "test"
        case' b10 =>
          have p0 : 0 < 2 + (i : Int) := by omega
          refine' sm_cons (s1_if (v := false) ?c13 (fun h => nomatch h) fun _ => sm_nil) ?_
          case' c13 =>
            refine' et_eq ?d13 (decide_eq_false (k1 i hi).2)
            case' d13 => wtm_at "test"
          refine' sm_le (sm_one ?s14) ?l14
          case' s14 => wtm_at "st"
          case' l14 => wtm_at "le"
        case' t11 =>
          have hc := sq k (Nat.le_refl _)
          refine' et_eq ?t15 k2
          case' t15 => wtm_at "test"
        case' b11 =>
          have p0 : 0 < 2 + (k : Int) := by omega
          refine' sm_end (s1_if (v := true) ?c16 (fun _ => sm_end (raiseF hX hT xN ?r5 ?r6)) fun h => nomatch h)
          case' c16 =>
            refine' et_eq ?d16 (decide_eq_true k3)
            case' d16 => wtm_at "test"
          case' r5 => decide +kernel
          case' r6 => decide +kernel
    · exact far p hr
end
end W

namespace W
open PySem PySem.Spec PyProof.Rows L2 LR
section
variable {P : Program} {w : World} {K : PySem.W.Frag} {mg : Str → Option Value} {base : Heap}
inductive rThing : List PyData → Res → Prop
  | mk {c : Int} : rThing [.int c] (.ok (.dat (lawThing c)))
local macro_rules | `(tactic| wtm_at "R") => `(tactic| first
  | ((with_reducible apply rPrime.mk) <;> first | (with_reducible assumption) | omega)
  | (constructor; all_goals try (wtm_at "sd")))
local macro_rules | `(tactic| wtm_at "nm") => `(tactic| first
  | ((with_reducible show Ev _ _ (.Name "cell" _) _); exact nmF (by assumption) 0 (by rfl) rfl (by decide +kernel) (by decide +kernel) (by decide +kernel))
  | ((with_reducible show Ev _ _ (.Name "way" _) _); exact nmF (by assumption) 1 (by rfl) rfl (by decide +kernel) (by decide +kernel) (by decide +kernel))
  | ((with_reducible show Ev _ _ (.Name "rest" _) _); exact nmF (by assumption) 2 (by rfl) rfl (by decide +kernel) (by decide +kernel) (by decide +kernel)))
local macro_rules | `(tactic| wtm_at "own") => `(tactic| first
  | ((with_reducible show EvS _ _ (.Name "cell" _) _ _); exact ownF (by assumption) 0 (by rfl) rfl (by decide +kernel) (by decide +kernel) (by decide +kernel))
  | ((with_reducible show EvS _ _ (.Name "way" _) _ _); exact ownF (by assumption) 1 (by rfl) rfl (by decide +kernel) (by decide +kernel) (by decide +kernel))
  | ((with_reducible show EvS _ _ (.Name "rest" _) _ _); exact ownF (by assumption) 2 (by rfl) rfl (by decide +kernel) (by decide +kernel) (by decide +kernel)))
local macro_rules | `(tactic| wtm_at "ownl") => `(tactic| first
  | ((with_reducible show EvL _ _ (.Name "cell" _) _); exact ownlF (by assumption) 0 (by rfl) rfl (by decide +kernel) (by decide +kernel) (by decide +kernel))
  | ((with_reducible show EvL _ _ (.Name "way" _) _); exact ownlF (by assumption) 1 (by rfl) rfl (by decide +kernel) (by decide +kernel) (by decide +kernel))
  | ((with_reducible show EvL _ _ (.Name "rest" _) _); exact ownlF (by assumption) 2 (by rfl) rfl (by decide +kernel) (by decide +kernel) (by decide +kernel)))
local macro_rules | `(tactic| wtm_at "set") => `(tactic| first
  | ((with_reducible show S1 _ _ (.Assign [.Name "cell" _] _ _) _); refine' setF ?st1 ?st2 0 ?st3 ?st4 ?ste ?st5; (case' st1 => assumption); (case' st2 => assumption); (case' st3 => rfl); (case' st4 => decide +kernel); (case' ste => wtm_at "ev"); (case' st5 => rfl))
  | ((with_reducible show S1 _ _ (.Assign [.Name "way" _] _ _) _); refine' setF ?st1 ?st2 1 ?st3 ?st4 ?ste ?st5; (case' st1 => assumption); (case' st2 => assumption); (case' st3 => rfl); (case' st4 => decide +kernel); (case' ste => wtm_at "ev"); (case' st5 => rfl))
  | ((with_reducible show S1 _ _ (.Assign [.Name "rest" _] _ _) _); refine' setF ?st1 ?st2 2 ?st3 ?st4 ?ste ?st5; (case' st1 => assumption); (case' st2 => assumption); (case' st3 => rfl); (case' st4 => decide +kernel); (case' ste => wtm_at "ev"); (case' st5 => rfl)))
local macro_rules | `(tactic| wtm_at "app") => `(tactic| first
  | ((with_reducible show S1 _ _ (.Expr (.Call (.Attribute (.Name "cell" _) _ _) _ _ _) _) _); refine' appF ?ap1 0 ?ap2 ?ap3 ?ap4 ?ape ?aps ?ap5 ?ap6; (case' ap1 => assumption); (case' ap2 => rfl); (case' ap3 => rfl); (case' ap4 => decide +kernel); (case' ape => wtm_at "ev"); (case' aps => try (wtm_at "sz")); (case' ap5 => decide +kernel); (case' ap6 => decide +kernel))
  | ((with_reducible show S1 _ _ (.Expr (.Call (.Attribute (.Name "way" _) _ _) _ _ _) _) _); refine' appF ?ap1 1 ?ap2 ?ap3 ?ap4 ?ape ?aps ?ap5 ?ap6; (case' ap1 => assumption); (case' ap2 => rfl); (case' ap3 => rfl); (case' ap4 => decide +kernel); (case' ape => wtm_at "ev"); (case' aps => try (wtm_at "sz")); (case' ap5 => decide +kernel); (case' ap6 => decide +kernel))
  | ((with_reducible show S1 _ _ (.Expr (.Call (.Attribute (.Name "rest" _) _ _) _ _ _) _) _); refine' appF ?ap1 2 ?ap2 ?ap3 ?ap4 ?ape ?aps ?ap5 ?ap6; (case' ap1 => assumption); (case' ap2 => rfl); (case' ap3 => rfl); (case' ap4 => decide +kernel); (case' ape => wtm_at "ev"); (case' aps => try (wtm_at "sz")); (case' ap5 => decide +kernel); (case' ap6 => decide +kernel)))
local macro_rules | `(tactic| wtm_at "put") => `(tactic| first
  | ((with_reducible show S1 _ _ (.Assign [.Subscript (.Name "cell" _) _ _] _ _) _); refine' putF ?pu1 0 ?pu2 ?pu3 ?pu4 ?pue ?pui ?pu5 ?pu6 ?pu7 ?pu8; (case' pu1 => assumption); (case' pu2 => rfl); (case' pu3 => rfl); (case' pu4 => decide +kernel); (case' pue => wtm_at "ev"); (case' pui => wtm_at "ev"); (case' pu5 => try (wtm_at "sd")); (case' pu6 => try (wtm_at "sd")); (case' pu7 => decide +kernel); (case' pu8 => decide +kernel))
  | ((with_reducible show S1 _ _ (.Assign [.Subscript (.Name "way" _) _ _] _ _) _); refine' putF ?pu1 1 ?pu2 ?pu3 ?pu4 ?pue ?pui ?pu5 ?pu6 ?pu7 ?pu8; (case' pu1 => assumption); (case' pu2 => rfl); (case' pu3 => rfl); (case' pu4 => decide +kernel); (case' pue => wtm_at "ev"); (case' pui => wtm_at "ev"); (case' pu5 => try (wtm_at "sd")); (case' pu6 => try (wtm_at "sd")); (case' pu7 => decide +kernel); (case' pu8 => decide +kernel))
  | ((with_reducible show S1 _ _ (.Assign [.Subscript (.Name "rest" _) _ _] _ _) _); refine' putF ?pu1 2 ?pu2 ?pu3 ?pu4 ?pue ?pui ?pu5 ?pu6 ?pu7 ?pu8; (case' pu1 => assumption); (case' pu2 => rfl); (case' pu3 => rfl); (case' pu4 => decide +kernel); (case' pue => wtm_at "ev"); (case' pui => wtm_at "ev"); (case' pu5 => try (wtm_at "sd")); (case' pu6 => try (wtm_at "sd")); (case' pu7 => decide +kernel); (case' pu8 => decide +kernel)))
local macro_rules | `(tactic| wtm_at "reto") => `(tactic| first
  | ((with_reducible show S1 _ _ (.Return (some (.Name "cell" _)) _) _); exact retOF (by assumption) 0 (by rfl) rfl (by decide +kernel) (by decide +kernel) (by decide +kernel))
  | ((with_reducible show S1 _ _ (.Return (some (.Name "way" _)) _) _); exact retOF (by assumption) 1 (by rfl) rfl (by decide +kernel) (by decide +kernel) (by decide +kernel))
  | ((with_reducible show S1 _ _ (.Return (some (.Name "rest" _)) _) _); exact retOF (by assumption) 2 (by rfl) rfl (by decide +kernel) (by decide +kernel) (by decide +kernel)))
local macro_rules | `(tactic| wtm_at "tgt") => `(tactic| first
  | ((with_reducible show PG _ (.Name "cell" _) _); exact tgF (by assumption) (by assumption) 0 (by rfl) (by decide +kernel))
  | ((with_reducible show PG _ (.Name "way" _) _); exact tgF (by assumption) (by assumption) 1 (by rfl) (by decide +kernel))
  | ((with_reducible show PG _ (.Name "rest" _) _); exact tgF (by assumption) (by assumption) 2 (by rfl) (by decide +kernel)))
set_option maxHeartbeats 400000 in
theorem ok_thing {f : Addr} {fd : FuncData} (F : Fun K "_law_thing" "_law_thing" s__law_thing f fd) (hm : mg "_law_thing" = some (.ref f)) (b : Binds K fd ["cell"] []) (Gp : Fn P w K mg base 1 "_law_prime" ["cell"] rPrime) : Fn P w K mg base 2 "_law_thing" ["cell"] rThing := by
  refine fnF F hm b sc__law_thing (fun ds r h => by cases h; rfl) fun X hX hT ds r h => ?_
  cases h with
  | @mk c =>
    have w0 := Int.emod_nonneg c (show (6 : Int) ≠ 0 by decide)
    have h59 : (0 : Int) < 10 ^ (59 : Int).toNat := by decide
    refine' sm_cons ?s1 ?_
    case' s1 => wtm_at "st"
    refine' sm_cons ?s2 ?_
    case' s2 => wtm_at "st"
    unfold lawThing
    by_cases h0 : c % 6 = 0
    · rw [if_pos h0]
      refine' sm_end (s1_if (v := true) ?c1 (fun _ => sm_end ?t1) fun h => nomatch h)
      case' c1 =>
        refine' et_eq ?d1 (decide_eq_true h0)
        case' d1 => wtm_at "test"
      case' t1 => wtm_at "st"
    rw [if_neg h0]
    refine' sm_cons (s1_if (v := false) ?c2 (fun h => nomatch h) fun _ => sm_nil) ?_
    case' c2 =>
      refine' et_eq ?d2 (decide_eq_false h0)
      case' d2 => wtm_at "test"
    by_cases h1 : c % 6 = 1
    · rw [if_pos h1]
      refine' sm_end (s1_if (v := true) ?c3 (fun _ => sm_end ?t3) fun h => nomatch h)
      case' c3 =>
        refine' et_eq ?d3 (decide_eq_true h1)
        case' d3 => wtm_at "test"
      case' t3 => wtm_at "st"
    rw [if_neg h1]
    refine' sm_cons (s1_if (v := false) ?c4 (fun h => nomatch h) fun _ => sm_nil) ?_
    case' c4 =>
      refine' et_eq ?d4 (decide_eq_false h1)
      case' d4 => wtm_at "test"
    by_cases h2 : c % 6 = 2
    · rw [if_pos h2]
      refine' sm_end (s1_if (v := true) ?c5 (fun _ => sm_end ?t5) fun h => nomatch h)
      case' c5 =>
        refine' et_eq ?d5 (decide_eq_true h2)
        case' d5 => wtm_at "test"
      case' t5 =>
        have cm : CMul (2 + c / 6 % 98) (2 + c / 6 / 98 % 98) := .inl (by omega)
        wtm_at "st"
    rw [if_neg h2]
    refine' sm_cons (s1_if (v := false) ?c6 (fun h => nomatch h) fun _ => sm_nil) ?_
    case' c6 =>
      refine' et_eq ?d6 (decide_eq_false h2)
      case' d6 => wtm_at "test"
    by_cases h3 : c % 6 = 3
    · rw [if_pos h3]
      refine' sm_end (s1_if (v := true) ?c7 (fun _ => sm_end ?t7) fun h => nomatch h)
      case' c7 =>
        refine' et_eq ?d7 (decide_eq_true h3)
        case' d7 => wtm_at "test"
      case' t7 => wtm_at "st"
    rw [if_neg h3]
    refine' sm_cons (s1_if (v := false) ?c8 (fun h => nomatch h) fun _ => sm_nil) ?_
    case' c8 =>
      refine' et_eq ?d8 (decide_eq_false h3)
      case' d8 => wtm_at "test"
    by_cases h4 : c % 6 = 4
    · rw [if_pos h4]
      refine' sm_end (s1_if (v := true) ?c9 (fun _ => sm_end ?t9) fun h => nomatch h)
      case' c9 =>
        refine' et_eq ?d9 (decide_eq_true h4)
        case' d9 => wtm_at "test"
      case' t9 => wtm_at "st"
    rw [if_neg h4]
    refine' sm_cons (s1_if (v := false) ?c10 (fun h => nomatch h) fun _ => sm_nil) ?_
    case' c10 =>
      refine' et_eq ?d10 (decide_eq_false h4)
      case' d10 => wtm_at "test"
    have r0 := Int.emod_nonneg (c / 6) (show (10 : Int) ≠ 0 by decide)
    have r1 := Int.emod_lt_of_pos (c / 6) (show (0 : Int) < 10 by decide)
    have hix := ixD (ds := oddThings) (i := c / 6 % 10) r0 (by show c / 6 % 10 < 10; omega)
    generalize oddThings.getD (c / 6 % 10).toNat .none = D at *
    refine' sm_end ?r0
    refine' s1_ret ?r1
    case' r1 =>
      refine' ev_atD (k := true) (ds := oddThings) (i := c / 6 % 10) (d := D) ?a1 ?a2 ?a3 ?a4
      case' a4 => exact fun _ _ => rfl
      case a3 => exact hix
      case' a2 => wtm_at "ev"
      case' a1 =>
        refine' evs_new ?b1
        case' b1 =>
          show Ev _ _ _ (.own (.lst [.none, .bool true, .bool false, .str "7", .tuple [.int 7], .list [.int 7], .dict [], .tuple [], .list [], .dict []]))
          refine' ev_lst ?b2 ?b3
          case b3 => rw [sizeLine_eq]; show 10 ≤ 16777216; decide
          case' b2 =>
            refine' ea_cons ?x0 ?y0
            case' x0 => exact ev_non
            refine' ea_cons ?x1 ?y1
            case' x1 => exact ev_bl
            refine' ea_cons ?x2 ?y2
            case' x2 => exact ev_bl
            refine' ea_cons ?x3 ?y3
            case' x3 => exact ev_str
            refine' ea_cons ?x4 ?y4
            case' x4 => wtm_at "ev"
            refine' ea_cons ?x5 ?y5
            case' x5 =>
              refine' ev_frz ?z5
              case' z5 => wtm_at "evl"
            refine' ea_cons ?x6 ?y6
            case' x6 => exact ev_frzD ev_dct
            refine' ea_cons ?x7 ?y7
            case' x7 => wtm_at "ev"
            refine' ea_cons ?x8 ?y8
            case' x8 =>
              refine' ev_frz ?z8
              case' z8 => wtm_at "evl"
            refine' ea_cons ?x9 ?y9
            case' x9 => exact ev_disp1 ev_int ev_bl
            exact ea_nil
end
end W

namespace W
open PySem PySem.Spec PyProof.Rows L2 LR
section
variable {P : Program} {w : World} {K : PySem.W.Frag} {mg : Str → Option Value} {base : Heap}
inductive rLIsPrime : List PyData → Res → Prop
  | mk {n : Int} : rLIsPrime [.int n] (.ok (.dat (.bool (prmB n))))
local macro_rules | `(tactic| wtm_at "nm") => `(tactic| first
  | ((with_reducible show Ev _ _ (.Name "n" _) _); exact nmF (by assumption) 0 (by rfl) rfl (by decide +kernel) (by decide +kernel) (by decide +kernel))
  | ((with_reducible show Ev _ _ (.Name "by" _) _); exact nmF (by assumption) 1 (by rfl) rfl (by decide +kernel) (by decide +kernel) (by decide +kernel)))
local macro_rules | `(tactic| wtm_at "own") => `(tactic| first
  | ((with_reducible show EvS _ _ (.Name "n" _) _ _); exact ownF (by assumption) 0 (by rfl) rfl (by decide +kernel) (by decide +kernel) (by decide +kernel))
  | ((with_reducible show EvS _ _ (.Name "by" _) _ _); exact ownF (by assumption) 1 (by rfl) rfl (by decide +kernel) (by decide +kernel) (by decide +kernel)))
local macro_rules | `(tactic| wtm_at "ownl") => `(tactic| first
  | ((with_reducible show EvL _ _ (.Name "n" _) _); exact ownlF (by assumption) 0 (by rfl) rfl (by decide +kernel) (by decide +kernel) (by decide +kernel))
  | ((with_reducible show EvL _ _ (.Name "by" _) _); exact ownlF (by assumption) 1 (by rfl) rfl (by decide +kernel) (by decide +kernel) (by decide +kernel)))
local macro_rules | `(tactic| wtm_at "set") => `(tactic| first
  | ((with_reducible show S1 _ _ (.Assign [.Name "n" _] _ _) _); refine' setF ?st1 ?st2 0 ?st3 ?st4 ?ste ?st5; (case' st1 => assumption); (case' st2 => assumption); (case' st3 => rfl); (case' st4 => decide +kernel); (case' ste => wtm_at "ev"); (case' st5 => rfl)))
local macro_rules | `(tactic| wtm_at "app") => `(tactic| first
  | ((with_reducible show S1 _ _ (.Expr (.Call (.Attribute (.Name "n" _) _ _) _ _ _) _) _); refine' appF ?ap1 0 ?ap2 ?ap3 ?ap4 ?ape ?aps ?ap5 ?ap6; (case' ap1 => assumption); (case' ap2 => rfl); (case' ap3 => rfl); (case' ap4 => decide +kernel); (case' ape => wtm_at "ev"); (case' aps => try (wtm_at "sz")); (case' ap5 => decide +kernel); (case' ap6 => decide +kernel)))
local macro_rules | `(tactic| wtm_at "put") => `(tactic| first
  | ((with_reducible show S1 _ _ (.Assign [.Subscript (.Name "n" _) _ _] _ _) _); refine' putF ?pu1 0 ?pu2 ?pu3 ?pu4 ?pue ?pui ?pu5 ?pu6 ?pu7 ?pu8; (case' pu1 => assumption); (case' pu2 => rfl); (case' pu3 => rfl); (case' pu4 => decide +kernel); (case' pue => wtm_at "ev"); (case' pui => wtm_at "ev"); (case' pu5 => try (wtm_at "sd")); (case' pu6 => try (wtm_at "sd")); (case' pu7 => decide +kernel); (case' pu8 => decide +kernel)))
local macro_rules | `(tactic| wtm_at "reto") => `(tactic| first
  | ((with_reducible show S1 _ _ (.Return (some (.Name "n" _)) _) _); exact retOF (by assumption) 0 (by rfl) rfl (by decide +kernel) (by decide +kernel) (by decide +kernel)))
local macro_rules | `(tactic| wtm_at "tgt") => `(tactic| first
  | ((with_reducible show PG _ (.Name "n" _) _); exact tgF (by assumption) (by assumption) 0 (by rfl) (by decide +kernel)))
theorem ok_lisprime {f : Addr} {fd : FuncData} (F : Fun K "_law_is_prime" "_law_is_prime" s__law_is_prime f fd) (hm : mg "_law_is_prime" = some (.ref f)) (b : Binds K fd ["n"] []) (ma : mg "any" = none) (mr : mg "range" = none) : Fn P w K mg base 1 "_law_is_prime" ["n"] rLIsPrime := by
  refine fnF F hm b sc__law_is_prime (fun ds r h => by cases h; rfl) fun X hX hT ds r h => ?_
  cases h with
  | @mk n =>
    refine' sm_end (s1_retE (ev_and (v := decide (3 ≤ n) && decide (n ≤ 9999)) (u := !smooth n) ?a1 fun _ => ev_one (ev_not (ev_eq (anyF hX ?g0 ma (evs_eq (evs_new ?a2) ?e2)) ?e0))) ?f1)
    case' a1 => wtm_at "ev"
    case' g0 => decide +kernel
    case' a2 =>
      refine' lcIf hX 1 (List.range 98) (fun j : Nat => .int (2 + (j : Int))) (fun j : Nat => decide (2 + (j : Int) < n)) (fun j : Nat => .bool (decide (n % (2 + (j : Int)) = 0))) ?i ?sr ?ok ?nn ?lx ?zz ?jj fun Y hY z hz => ⟨?t1, fun _ => ?e1⟩
      case' i => wtm_at "iter"
      case' sr => rfl
      case' ok => decide +kernel
      case' nn => rfl
      case' lx => decide +kernel
      case' zz => decide +kernel
      case' jj => rfl
      case' t1 => wtm_at "test"
      case' e1 => wtm_at "ev"
    case e2 => exact (List.map_map (f := fun j : Nat => decide (n % (2 + (j : Int)) = 0)) (g := PyData.bool)).symm
    case e0 => simp [smooth, List.any_map, Function.comp_def]
    case f1 => rfl
inductive rLRefused : List PyData → Res → Prop
  | mk {d : PyData} (h : rPrimeA [d] (.ex "NoPrime")) : rLRefused [d] (.ok (.dat (.bool true)))
local macro_rules | `(tactic| wtm_at "nm") => `(tactic| first
  | ((with_reducible show Ev _ _ (.Name "thing" _) _); exact nmF (by assumption) 0 (by rfl) rfl (by decide +kernel) (by decide +kernel) (by decide +kernel))
  | ((with_reducible show Ev _ _ (.Name "good" _) _); exact nmF (by assumption) 1 (by rfl) rfl (by decide +kernel) (by decide +kernel) (by decide +kernel))
  | ((with_reducible show Ev _ _ (.Name "other" _) _); exact nmF (by assumption) 2 (by rfl) rfl (by decide +kernel) (by decide +kernel) (by decide +kernel))
  | ((with_reducible show Ev _ _ (.Name "e" _) _); exact nmF (by assumption) 3 (by rfl) rfl (by decide +kernel) (by decide +kernel) (by decide +kernel)))
local macro_rules | `(tactic| wtm_at "own") => `(tactic| first
  | ((with_reducible show EvS _ _ (.Name "thing" _) _ _); exact ownF (by assumption) 0 (by rfl) rfl (by decide +kernel) (by decide +kernel) (by decide +kernel))
  | ((with_reducible show EvS _ _ (.Name "good" _) _ _); exact ownF (by assumption) 1 (by rfl) rfl (by decide +kernel) (by decide +kernel) (by decide +kernel))
  | ((with_reducible show EvS _ _ (.Name "other" _) _ _); exact ownF (by assumption) 2 (by rfl) rfl (by decide +kernel) (by decide +kernel) (by decide +kernel))
  | ((with_reducible show EvS _ _ (.Name "e" _) _ _); exact ownF (by assumption) 3 (by rfl) rfl (by decide +kernel) (by decide +kernel) (by decide +kernel)))
local macro_rules | `(tactic| wtm_at "ownl") => `(tactic| first
  | ((with_reducible show EvL _ _ (.Name "thing" _) _); exact ownlF (by assumption) 0 (by rfl) rfl (by decide +kernel) (by decide +kernel) (by decide +kernel))
  | ((with_reducible show EvL _ _ (.Name "good" _) _); exact ownlF (by assumption) 1 (by rfl) rfl (by decide +kernel) (by decide +kernel) (by decide +kernel))
  | ((with_reducible show EvL _ _ (.Name "other" _) _); exact ownlF (by assumption) 2 (by rfl) rfl (by decide +kernel) (by decide +kernel) (by decide +kernel))
  | ((with_reducible show EvL _ _ (.Name "e" _) _); exact ownlF (by assumption) 3 (by rfl) rfl (by decide +kernel) (by decide +kernel) (by decide +kernel)))
local macro_rules | `(tactic| wtm_at "set") => `(tactic| first
  | ((with_reducible show S1 _ _ (.Assign [.Name "thing" _] _ _) _); refine' setF ?st1 ?st2 0 ?st3 ?st4 ?ste ?st5; (case' st1 => assumption); (case' st2 => assumption); (case' st3 => rfl); (case' st4 => decide +kernel); (case' ste => wtm_at "ev"); (case' st5 => rfl))
  | ((with_reducible show S1 _ _ (.Assign [.Name "good" _] _ _) _); refine' setF ?st1 ?st2 1 ?st3 ?st4 ?ste ?st5; (case' st1 => assumption); (case' st2 => assumption); (case' st3 => rfl); (case' st4 => decide +kernel); (case' ste => wtm_at "ev"); (case' st5 => rfl))
  | ((with_reducible show S1 _ _ (.Assign [.Name "other" _] _ _) _); refine' setF ?st1 ?st2 2 ?st3 ?st4 ?ste ?st5; (case' st1 => assumption); (case' st2 => assumption); (case' st3 => rfl); (case' st4 => decide +kernel); (case' ste => wtm_at "ev"); (case' st5 => rfl))
  | ((with_reducible show S1 _ _ (.Assign [.Name "e" _] _ _) _); refine' setF ?st1 ?st2 3 ?st3 ?st4 ?ste ?st5; (case' st1 => assumption); (case' st2 => assumption); (case' st3 => rfl); (case' st4 => decide +kernel); (case' ste => wtm_at "ev"); (case' st5 => rfl)))
local macro_rules | `(tactic| wtm_at "app") => `(tactic| first
  | ((with_reducible show S1 _ _ (.Expr (.Call (.Attribute (.Name "thing" _) _ _) _ _ _) _) _); refine' appF ?ap1 0 ?ap2 ?ap3 ?ap4 ?ape ?aps ?ap5 ?ap6; (case' ap1 => assumption); (case' ap2 => rfl); (case' ap3 => rfl); (case' ap4 => decide +kernel); (case' ape => wtm_at "ev"); (case' aps => try (wtm_at "sz")); (case' ap5 => decide +kernel); (case' ap6 => decide +kernel))
  | ((with_reducible show S1 _ _ (.Expr (.Call (.Attribute (.Name "good" _) _ _) _ _ _) _) _); refine' appF ?ap1 1 ?ap2 ?ap3 ?ap4 ?ape ?aps ?ap5 ?ap6; (case' ap1 => assumption); (case' ap2 => rfl); (case' ap3 => rfl); (case' ap4 => decide +kernel); (case' ape => wtm_at "ev"); (case' aps => try (wtm_at "sz")); (case' ap5 => decide +kernel); (case' ap6 => decide +kernel))
  | ((with_reducible show S1 _ _ (.Expr (.Call (.Attribute (.Name "other" _) _ _) _ _ _) _) _); refine' appF ?ap1 2 ?ap2 ?ap3 ?ap4 ?ape ?aps ?ap5 ?ap6; (case' ap1 => assumption); (case' ap2 => rfl); (case' ap3 => rfl); (case' ap4 => decide +kernel); (case' ape => wtm_at "ev"); (case' aps => try (wtm_at "sz")); (case' ap5 => decide +kernel); (case' ap6 => decide +kernel))
  | ((with_reducible show S1 _ _ (.Expr (.Call (.Attribute (.Name "e" _) _ _) _ _ _) _) _); refine' appF ?ap1 3 ?ap2 ?ap3 ?ap4 ?ape ?aps ?ap5 ?ap6; (case' ap1 => assumption); (case' ap2 => rfl); (case' ap3 => rfl); (case' ap4 => decide +kernel); (case' ape => wtm_at "ev"); (case' aps => try (wtm_at "sz")); (case' ap5 => decide +kernel); (case' ap6 => decide +kernel)))
local macro_rules | `(tactic| wtm_at "put") => `(tactic| first
  | ((with_reducible show S1 _ _ (.Assign [.Subscript (.Name "thing" _) _ _] _ _) _); refine' putF ?pu1 0 ?pu2 ?pu3 ?pu4 ?pue ?pui ?pu5 ?pu6 ?pu7 ?pu8; (case' pu1 => assumption); (case' pu2 => rfl); (case' pu3 => rfl); (case' pu4 => decide +kernel); (case' pue => wtm_at "ev"); (case' pui => wtm_at "ev"); (case' pu5 => try (wtm_at "sd")); (case' pu6 => try (wtm_at "sd")); (case' pu7 => decide +kernel); (case' pu8 => decide +kernel))
  | ((with_reducible show S1 _ _ (.Assign [.Subscript (.Name "good" _) _ _] _ _) _); refine' putF ?pu1 1 ?pu2 ?pu3 ?pu4 ?pue ?pui ?pu5 ?pu6 ?pu7 ?pu8; (case' pu1 => assumption); (case' pu2 => rfl); (case' pu3 => rfl); (case' pu4 => decide +kernel); (case' pue => wtm_at "ev"); (case' pui => wtm_at "ev"); (case' pu5 => try (wtm_at "sd")); (case' pu6 => try (wtm_at "sd")); (case' pu7 => decide +kernel); (case' pu8 => decide +kernel))
  | ((with_reducible show S1 _ _ (.Assign [.Subscript (.Name "other" _) _ _] _ _) _); refine' putF ?pu1 2 ?pu2 ?pu3 ?pu4 ?pue ?pui ?pu5 ?pu6 ?pu7 ?pu8; (case' pu1 => assumption); (case' pu2 => rfl); (case' pu3 => rfl); (case' pu4 => decide +kernel); (case' pue => wtm_at "ev"); (case' pui => wtm_at "ev"); (case' pu5 => try (wtm_at "sd")); (case' pu6 => try (wtm_at "sd")); (case' pu7 => decide +kernel); (case' pu8 => decide +kernel))
  | ((with_reducible show S1 _ _ (.Assign [.Subscript (.Name "e" _) _ _] _ _) _); refine' putF ?pu1 3 ?pu2 ?pu3 ?pu4 ?pue ?pui ?pu5 ?pu6 ?pu7 ?pu8; (case' pu1 => assumption); (case' pu2 => rfl); (case' pu3 => rfl); (case' pu4 => decide +kernel); (case' pue => wtm_at "ev"); (case' pui => wtm_at "ev"); (case' pu5 => try (wtm_at "sd")); (case' pu6 => try (wtm_at "sd")); (case' pu7 => decide +kernel); (case' pu8 => decide +kernel)))
local macro_rules | `(tactic| wtm_at "reto") => `(tactic| first
  | ((with_reducible show S1 _ _ (.Return (some (.Name "thing" _)) _) _); exact retOF (by assumption) 0 (by rfl) rfl (by decide +kernel) (by decide +kernel) (by decide +kernel))
  | ((with_reducible show S1 _ _ (.Return (some (.Name "good" _)) _) _); exact retOF (by assumption) 1 (by rfl) rfl (by decide +kernel) (by decide +kernel) (by decide +kernel))
  | ((with_reducible show S1 _ _ (.Return (some (.Name "other" _)) _) _); exact retOF (by assumption) 2 (by rfl) rfl (by decide +kernel) (by decide +kernel) (by decide +kernel))
  | ((with_reducible show S1 _ _ (.Return (some (.Name "e" _)) _) _); exact retOF (by assumption) 3 (by rfl) rfl (by decide +kernel) (by decide +kernel) (by decide +kernel)))
local macro_rules | `(tactic| wtm_at "tgt") => `(tactic| first
  | ((with_reducible show PG _ (.Name "thing" _) _); exact tgF (by assumption) (by assumption) 0 (by rfl) (by decide +kernel))
  | ((with_reducible show PG _ (.Name "good" _) _); exact tgF (by assumption) (by assumption) 1 (by rfl) (by decide +kernel))
  | ((with_reducible show PG _ (.Name "other" _) _); exact tgF (by assumption) (by assumption) 2 (by rfl) (by decide +kernel))
  | ((with_reducible show PG _ (.Name "e" _) _); exact tgF (by assumption) (by assumption) 3 (by rfl) (by decide +kernel)))
theorem ok_lrefused {f : Addr} {fd : FuncData} (F : Fun K "_law_refused" "_law_refused" s__law_refused f fd) (hm : mg "_law_refused" = some (.ref f)) (b : Binds K fd ["thing"] []) (mi : mg "isinstance" = none) (mv : mg "ValueError" = none)
    (xm : XM K mg "NoPrime" "LongError") (xd : XD K mg "NoPrime") (xv : XV K mg "NoPrime" "ValueError" true) (o1 : XO K mg "NoPrime" "NoPrime" true) (o2 : XO K mg "NoPrime" "Lossy" false) (o3 : XO K mg "NoPrime" "NoNumber" false) (o4 : XO K mg "NoPrime" "NoProgram" false) (o5 : XO K mg "NoPrime" "NoText" false) (o6 : XO K mg "NoPrime" "TooLong" false)
    (Gp : Fn P w K mg base 2 "prime" ["thing"] rPrimeA) : Fn P w K mg base 3 "_law_refused" ["thing"] rLRefused := by
  refine fnF F hm b sc__law_refused (fun ds r h => by cases h; rfl) fun X hX hT ds r h => ?_
  obtain ⟨cD, cL, gD, gL, hex⟩ := xm
  obtain ⟨cD', gD', hE⟩ := xd
  cases gD.symm.trans gD'
  obtain ⟨cD', gD', hV⟩ := xv
  cases gD.symm.trans gD'
  obtain ⟨cD', c1, gD', g1, k1⟩ := o1
  cases gD.symm.trans gD'
  obtain ⟨cD', c2, gD', g2, k2⟩ := o2
  cases gD.symm.trans gD'
  obtain ⟨cD', c3, gD', g3, k3⟩ := o3
  cases gD.symm.trans gD'
  obtain ⟨cD', c4, gD', g4, k4⟩ := o4
  cases gD.symm.trans gD'
  obtain ⟨cD', c5, gD', g5, k5⟩ := o5
  cases gD.symm.trans gD'
  obtain ⟨cD', c6, gD', g6, k6⟩ := o6
  cases gD.symm.trans gD'
  cases h with
  | @mk d hr =>
    refine' sm_cons ?u1 ?_
    case' u1 => wtm_at "st"
    refine' sm_cons ?u2 ?_
    case' u2 => wtm_at "st"
    refine' sm_cons (A1 := [.dat d, .dat (.bool true), .dat (.bool false), .un]) ?u3 ?_
    case' u3 =>
      refine' tryX hX hT (i := 3) (cl := cL) (D := cD) (z := "NoPrime") (A1 := [.dat d, .dat (.bool false), .dat (.bool true), .un]) (A2 := [.dat d, .dat (.bool true), .dat (.bool false), .un]) ?v1 ?v2 ?v3 gL ?v4 gD hex hE rfl (fun Y hY hTY => ?v5) (fun Y ad hS => ?v6)
      case' v1 => rfl
      case' v2 => decide +kernel
      case' v3 => decide +kernel
      case' v4 => decide +kernel
      case' v5 =>
        refine' sm_one (s1_exprX (callXF hY Gp (by decide) ?w3 ?w4 hr ?w5))
        case' w3 => decide +kernel
        case' w4 => wtm_at "args"
        case' w5 => decide +kernel
      case' v6 =>
        have d1 : Vis (defScope s__law_refused) "e" := by decide +kernel
        have d2 : GlS (defScope s__law_refused) "isinstance" := by decide +kernel
        have kk := none_of (K := K) (D := cD) (cs := [c2, c3, c4, c5, c6]) ⟨k2, k3, k4, k5, k6, trivial⟩
        refine' sm_cons (A1 := [.dat d, .dat (.bool true), .dat (.bool true), .rf ad]) (setS hS 1 (by rfl) (by decide +kernel) (ev_and (v := true) (u := true) (isE_own hS 3 rfl rfl d1 (by decide +kernel) (by decide +kernel) d2 mi (by decide +kernel) g1 (by decide +kernel) k1) fun _ => ev_one (isE_ty hS 3 (T := "ValueError") rfl rfl d1 (by decide +kernel) (by decide +kernel) d2 mi (by decide +kernel) mv (by decide +kernel) (by decide) (by decide) hV)) (by rfl)) ?_
        refine' sm_le (sm_one (setS hS 2 (by rfl) (by decide +kernel) (isE_tup hS 3 rfl rfl d1 (by decide +kernel) (by decide +kernel) d2 mi (clsA_cons hS (by decide +kernel) g2 (by decide +kernel) (clsA_cons hS (by decide +kernel) g3 (by decide +kernel) (clsA_cons hS (by decide +kernel) g4 (by decide +kernel) (clsA_cons hS (by decide +kernel) g5 (by decide +kernel) (clsA_cons hS (by decide +kernel) g6 (by decide +kernel) clsA_nil))))) (by show 5 ≤ sizeLine; decide +kernel) kk) (by rfl))) ?v9
        case' v9 => exact LeA.cons LeC.refl (LeA.cons LeC.refl (LeA.cons LeC.refl (LeA.cons LeC.un LeA.nil)))
    refine' sm_end (s1_retE ?e11 ?e12)
    case' e11 => wtm_at "ev"
    case e12 => rfl
inductive rLaw : List PyData → Res → Prop
  | mk {s : List Int} (h : s.length ≤ 63) : rLaw [.list (s.map .int)] (.ok (.dat (.bool true)))
local macro_rules | `(tactic| wtm_at "R") => `(tactic| first
  | ((with_reducible apply rThing.mk) <;> first | (with_reducible assumption) | omega)
  | ((with_reducible apply rIsWA.mk) <;> first | (with_reducible assumption) | omega)
  | ((with_reducible apply rLIsPrime.mk) <;> first | (with_reducible assumption) | omega)
  | (constructor; all_goals try (wtm_at "sd")))
local macro_rules | `(tactic| wtm_at "nm") => `(tactic| first
  | ((with_reducible show Ev _ _ (.Name "script" _) _); exact nmF (by assumption) 0 (by rfl) rfl (by decide +kernel) (by decide +kernel) (by decide +kernel))
  | ((with_reducible show Ev _ _ (.Name "cell" _) _); exact nmF (by assumption) 1 (by rfl) rfl (by decide +kernel) (by decide +kernel) (by decide +kernel))
  | ((with_reducible show Ev _ _ (.Name "thing" _) _); exact nmF (by assumption) 2 (by rfl) rfl (by decide +kernel) (by decide +kernel) (by decide +kernel))
  | ((with_reducible show Ev _ _ (.Name "found" _) _); exact nmF (by assumption) 3 (by rfl) rfl (by decide +kernel) (by decide +kernel) (by decide +kernel))
  | ((with_reducible show Ev _ _ (.Name "same" _) _); exact nmF (by assumption) 4 (by rfl) rfl (by decide +kernel) (by decide +kernel) (by decide +kernel)))
local macro_rules | `(tactic| wtm_at "own") => `(tactic| first
  | ((with_reducible show EvS _ _ (.Name "script" _) _ _); exact ownF (by assumption) 0 (by rfl) rfl (by decide +kernel) (by decide +kernel) (by decide +kernel))
  | ((with_reducible show EvS _ _ (.Name "cell" _) _ _); exact ownF (by assumption) 1 (by rfl) rfl (by decide +kernel) (by decide +kernel) (by decide +kernel))
  | ((with_reducible show EvS _ _ (.Name "thing" _) _ _); exact ownF (by assumption) 2 (by rfl) rfl (by decide +kernel) (by decide +kernel) (by decide +kernel))
  | ((with_reducible show EvS _ _ (.Name "found" _) _ _); exact ownF (by assumption) 3 (by rfl) rfl (by decide +kernel) (by decide +kernel) (by decide +kernel))
  | ((with_reducible show EvS _ _ (.Name "same" _) _ _); exact ownF (by assumption) 4 (by rfl) rfl (by decide +kernel) (by decide +kernel) (by decide +kernel)))
local macro_rules | `(tactic| wtm_at "ownl") => `(tactic| first
  | ((with_reducible show EvL _ _ (.Name "script" _) _); exact ownlF (by assumption) 0 (by rfl) rfl (by decide +kernel) (by decide +kernel) (by decide +kernel))
  | ((with_reducible show EvL _ _ (.Name "cell" _) _); exact ownlF (by assumption) 1 (by rfl) rfl (by decide +kernel) (by decide +kernel) (by decide +kernel))
  | ((with_reducible show EvL _ _ (.Name "thing" _) _); exact ownlF (by assumption) 2 (by rfl) rfl (by decide +kernel) (by decide +kernel) (by decide +kernel))
  | ((with_reducible show EvL _ _ (.Name "found" _) _); exact ownlF (by assumption) 3 (by rfl) rfl (by decide +kernel) (by decide +kernel) (by decide +kernel))
  | ((with_reducible show EvL _ _ (.Name "same" _) _); exact ownlF (by assumption) 4 (by rfl) rfl (by decide +kernel) (by decide +kernel) (by decide +kernel)))
local macro_rules | `(tactic| wtm_at "set") => `(tactic| first
  | ((with_reducible show S1 _ _ (.Assign [.Name "script" _] _ _) _); refine' setF ?st1 ?st2 0 ?st3 ?st4 ?ste ?st5; (case' st1 => assumption); (case' st2 => assumption); (case' st3 => rfl); (case' st4 => decide +kernel); (case' ste => wtm_at "ev"); (case' st5 => rfl))
  | ((with_reducible show S1 _ _ (.Assign [.Name "cell" _] _ _) _); refine' setF ?st1 ?st2 1 ?st3 ?st4 ?ste ?st5; (case' st1 => assumption); (case' st2 => assumption); (case' st3 => rfl); (case' st4 => decide +kernel); (case' ste => wtm_at "ev"); (case' st5 => rfl))
  | ((with_reducible show S1 _ _ (.Assign [.Name "thing" _] _ _) _); refine' setF ?st1 ?st2 2 ?st3 ?st4 ?ste ?st5; (case' st1 => assumption); (case' st2 => assumption); (case' st3 => rfl); (case' st4 => decide +kernel); (case' ste => wtm_at "ev"); (case' st5 => rfl))
  | ((with_reducible show S1 _ _ (.Assign [.Name "found" _] _ _) _); refine' setF ?st1 ?st2 3 ?st3 ?st4 ?ste ?st5; (case' st1 => assumption); (case' st2 => assumption); (case' st3 => rfl); (case' st4 => decide +kernel); (case' ste => wtm_at "ev"); (case' st5 => rfl))
  | ((with_reducible show S1 _ _ (.Assign [.Name "same" _] _ _) _); refine' setF ?st1 ?st2 4 ?st3 ?st4 ?ste ?st5; (case' st1 => assumption); (case' st2 => assumption); (case' st3 => rfl); (case' st4 => decide +kernel); (case' ste => wtm_at "ev"); (case' st5 => rfl)))
local macro_rules | `(tactic| wtm_at "app") => `(tactic| first
  | ((with_reducible show S1 _ _ (.Expr (.Call (.Attribute (.Name "script" _) _ _) _ _ _) _) _); refine' appF ?ap1 0 ?ap2 ?ap3 ?ap4 ?ape ?aps ?ap5 ?ap6; (case' ap1 => assumption); (case' ap2 => rfl); (case' ap3 => rfl); (case' ap4 => decide +kernel); (case' ape => wtm_at "ev"); (case' aps => try (wtm_at "sz")); (case' ap5 => decide +kernel); (case' ap6 => decide +kernel))
  | ((with_reducible show S1 _ _ (.Expr (.Call (.Attribute (.Name "cell" _) _ _) _ _ _) _) _); refine' appF ?ap1 1 ?ap2 ?ap3 ?ap4 ?ape ?aps ?ap5 ?ap6; (case' ap1 => assumption); (case' ap2 => rfl); (case' ap3 => rfl); (case' ap4 => decide +kernel); (case' ape => wtm_at "ev"); (case' aps => try (wtm_at "sz")); (case' ap5 => decide +kernel); (case' ap6 => decide +kernel))
  | ((with_reducible show S1 _ _ (.Expr (.Call (.Attribute (.Name "thing" _) _ _) _ _ _) _) _); refine' appF ?ap1 2 ?ap2 ?ap3 ?ap4 ?ape ?aps ?ap5 ?ap6; (case' ap1 => assumption); (case' ap2 => rfl); (case' ap3 => rfl); (case' ap4 => decide +kernel); (case' ape => wtm_at "ev"); (case' aps => try (wtm_at "sz")); (case' ap5 => decide +kernel); (case' ap6 => decide +kernel))
  | ((with_reducible show S1 _ _ (.Expr (.Call (.Attribute (.Name "found" _) _ _) _ _ _) _) _); refine' appF ?ap1 3 ?ap2 ?ap3 ?ap4 ?ape ?aps ?ap5 ?ap6; (case' ap1 => assumption); (case' ap2 => rfl); (case' ap3 => rfl); (case' ap4 => decide +kernel); (case' ape => wtm_at "ev"); (case' aps => try (wtm_at "sz")); (case' ap5 => decide +kernel); (case' ap6 => decide +kernel))
  | ((with_reducible show S1 _ _ (.Expr (.Call (.Attribute (.Name "same" _) _ _) _ _ _) _) _); refine' appF ?ap1 4 ?ap2 ?ap3 ?ap4 ?ape ?aps ?ap5 ?ap6; (case' ap1 => assumption); (case' ap2 => rfl); (case' ap3 => rfl); (case' ap4 => decide +kernel); (case' ape => wtm_at "ev"); (case' aps => try (wtm_at "sz")); (case' ap5 => decide +kernel); (case' ap6 => decide +kernel)))
local macro_rules | `(tactic| wtm_at "put") => `(tactic| first
  | ((with_reducible show S1 _ _ (.Assign [.Subscript (.Name "script" _) _ _] _ _) _); refine' putF ?pu1 0 ?pu2 ?pu3 ?pu4 ?pue ?pui ?pu5 ?pu6 ?pu7 ?pu8; (case' pu1 => assumption); (case' pu2 => rfl); (case' pu3 => rfl); (case' pu4 => decide +kernel); (case' pue => wtm_at "ev"); (case' pui => wtm_at "ev"); (case' pu5 => try (wtm_at "sd")); (case' pu6 => try (wtm_at "sd")); (case' pu7 => decide +kernel); (case' pu8 => decide +kernel))
  | ((with_reducible show S1 _ _ (.Assign [.Subscript (.Name "cell" _) _ _] _ _) _); refine' putF ?pu1 1 ?pu2 ?pu3 ?pu4 ?pue ?pui ?pu5 ?pu6 ?pu7 ?pu8; (case' pu1 => assumption); (case' pu2 => rfl); (case' pu3 => rfl); (case' pu4 => decide +kernel); (case' pue => wtm_at "ev"); (case' pui => wtm_at "ev"); (case' pu5 => try (wtm_at "sd")); (case' pu6 => try (wtm_at "sd")); (case' pu7 => decide +kernel); (case' pu8 => decide +kernel))
  | ((with_reducible show S1 _ _ (.Assign [.Subscript (.Name "thing" _) _ _] _ _) _); refine' putF ?pu1 2 ?pu2 ?pu3 ?pu4 ?pue ?pui ?pu5 ?pu6 ?pu7 ?pu8; (case' pu1 => assumption); (case' pu2 => rfl); (case' pu3 => rfl); (case' pu4 => decide +kernel); (case' pue => wtm_at "ev"); (case' pui => wtm_at "ev"); (case' pu5 => try (wtm_at "sd")); (case' pu6 => try (wtm_at "sd")); (case' pu7 => decide +kernel); (case' pu8 => decide +kernel))
  | ((with_reducible show S1 _ _ (.Assign [.Subscript (.Name "found" _) _ _] _ _) _); refine' putF ?pu1 3 ?pu2 ?pu3 ?pu4 ?pue ?pui ?pu5 ?pu6 ?pu7 ?pu8; (case' pu1 => assumption); (case' pu2 => rfl); (case' pu3 => rfl); (case' pu4 => decide +kernel); (case' pue => wtm_at "ev"); (case' pui => wtm_at "ev"); (case' pu5 => try (wtm_at "sd")); (case' pu6 => try (wtm_at "sd")); (case' pu7 => decide +kernel); (case' pu8 => decide +kernel))
  | ((with_reducible show S1 _ _ (.Assign [.Subscript (.Name "same" _) _ _] _ _) _); refine' putF ?pu1 4 ?pu2 ?pu3 ?pu4 ?pue ?pui ?pu5 ?pu6 ?pu7 ?pu8; (case' pu1 => assumption); (case' pu2 => rfl); (case' pu3 => rfl); (case' pu4 => decide +kernel); (case' pue => wtm_at "ev"); (case' pui => wtm_at "ev"); (case' pu5 => try (wtm_at "sd")); (case' pu6 => try (wtm_at "sd")); (case' pu7 => decide +kernel); (case' pu8 => decide +kernel)))
local macro_rules | `(tactic| wtm_at "reto") => `(tactic| first
  | ((with_reducible show S1 _ _ (.Return (some (.Name "script" _)) _) _); exact retOF (by assumption) 0 (by rfl) rfl (by decide +kernel) (by decide +kernel) (by decide +kernel))
  | ((with_reducible show S1 _ _ (.Return (some (.Name "cell" _)) _) _); exact retOF (by assumption) 1 (by rfl) rfl (by decide +kernel) (by decide +kernel) (by decide +kernel))
  | ((with_reducible show S1 _ _ (.Return (some (.Name "thing" _)) _) _); exact retOF (by assumption) 2 (by rfl) rfl (by decide +kernel) (by decide +kernel) (by decide +kernel))
  | ((with_reducible show S1 _ _ (.Return (some (.Name "found" _)) _) _); exact retOF (by assumption) 3 (by rfl) rfl (by decide +kernel) (by decide +kernel) (by decide +kernel))
  | ((with_reducible show S1 _ _ (.Return (some (.Name "same" _)) _) _); exact retOF (by assumption) 4 (by rfl) rfl (by decide +kernel) (by decide +kernel) (by decide +kernel)))
local macro_rules | `(tactic| wtm_at "tgt") => `(tactic| first
  | ((with_reducible show PG _ (.Name "script" _) _); exact tgF (by assumption) (by assumption) 0 (by rfl) (by decide +kernel))
  | ((with_reducible show PG _ (.Name "cell" _) _); exact tgF (by assumption) (by assumption) 1 (by rfl) (by decide +kernel))
  | ((with_reducible show PG _ (.Name "thing" _) _); exact tgF (by assumption) (by assumption) 2 (by rfl) (by decide +kernel))
  | ((with_reducible show PG _ (.Name "found" _) _); exact tgF (by assumption) (by assumption) 3 (by rfl) (by decide +kernel))
  | ((with_reducible show PG _ (.Name "same" _) _); exact tgF (by assumption) (by assumption) 4 (by rfl) (by decide +kernel)))
theorem ok_law {f : Addr} {fd : FuncData} (F : Fun K "law" "law" s_law f fd) (hm : mg "law" = some (.ref f)) (b : Binds K fd ["script"] []) (mi : mg "isinstance" = none) (mbo : mg "bool" = none) (mli : mg "list" = none)
    (Gth : Fn P w K mg base 2 "_law_thing" ["cell"] rThing) (Giw : Fn P w K mg base 1 "is_whole" ["thing"] rIsWA) (Glp : Fn P w K mg base 1 "_law_is_prime" ["n"] rLIsPrime) (Gp : Fn P w K mg base 2 "prime" ["thing"] rPrimeA) (Gw : Fn P w K mg base 1 "_law_whole" ["found"] rWhole) (Glr : Fn P w K mg base 3 "_law_refused" ["thing"] rLRefused) : Fn P w K mg base 4 "law" ["script"] rLaw := by
  refine fnF F hm b sc_law (fun ds r h => by cases h; rfl) fun X hX hT ds r h => ?_
  cases h with
  | @mk s hs =>
    refine' sm_cons (A1 := [.dat (.list (s.map .int)), .un, .un, .un, .un]) ?s1 ?_
    case' s1 =>
      refine' s1_le (forL hX 1 (5 :: s) PyData.int (fun i => [.dat (.list (s.map .int)), .un, .un, .un, .un]) ?i1 ?r1 ?g1 ?l1 (fun _ => rfl) (fun i hi => ?b1)) ?l1b
      case' i1 =>
        refine' ei_dat (ev_frz (ev_catL (ds := [.int 5]) (es := s.map .int) (evl_new ?a1) (evl_new (listF hX ?a2 mli ?a3)) ?a4)) SeqD.lst
        case' a1 => wtm_at "evl"
        case' a2 => decide +kernel
        case' a3 => wtm_at "seq"
        case a4 => rw [List.length_map, sizeLine_eq]; show 1 + s.length ≤ 16777216; omega
      case' r1 => rfl
      case' g1 => wtm_at "tgt"
      case' l1 => exact LeA.refl
      case' l1b => exact LeA.refl
      generalize (5 :: s)[i] = c
      have hw := lawThing_wh c
      refine' sm_cons ?s2 ?_
      case' s2 => wtm_at "st"
      generalize lawThing c = d at *
      refine' sm_cons ?s3 ?_
      case' s3 => wtm_at "st"
      refine' sm_cons (s1_if (v := false) ?c4 (fun h => nomatch h) fun _ => sm_nil) ?_
      case' c4 =>
        refine' et_eq (ew_et (ew_or (v := false) (u := !decide (isWh d = decide (c % 6 < 5))) ?d4 fun _ => ew_or1 (et_cmpR (d1 := .bool (isWh d)) (d2 := .bool (decide (c % 6 < 5))) ?e4 ?f4 (cmpNe hX encB01 (by decide))))) ?g4
        case' d4 => exact et_not (v := true) (by wtm_at "test")
        case' e4 => wtm_at "ev"
        case' f4 => wtm_at "ev"
        case g4 => rw [hw, decide_eq_true rfl]; rfl
      clear hw
      by_cases hd : isWh d = true
      · obtain ⟨n, rfl⟩ : ∃ n, d = .int n := by
          cases d with
          | int n => exact ⟨n, rfl⟩
          | none => cases hd
          | bool z => cases hd
          | str z => cases hd
          | tuple z => cases hd
          | list z => cases hd
          | dict z => cases hd
        by_cases hp : Prm n
        · refine' sm_le (sm_one (s1_if (v := true) ?c5 (fun _ => ?t5) fun h => nomatch h)) ?l5
          case' c5 =>
            refine' et_eq ?d5 ?e5
            case' d5 => wtm_at "test"
            case e5 => rw [prmB_iff.mpr hp]; rfl
          case' t5 =>
            refine' sm_cons (A1 := [.dat (.list (s.map .int)), .dat (.int c), .dat (.int n), .dat (.bool true), .dat (.int n)]) ?s6 ?_
            case' s6 =>
              refine' setF hX hT 4 (by rfl) ?e6 (callF hX Gp (by decide) ?f6 ?g6 (rPrimeA.mk hp) ?h6) (by rfl)
              case' e6 => decide +kernel
              case' f6 => decide +kernel
              case' g6 => wtm_at "args"
              case' h6 => decide +kernel
            refine' sm_one (s1_if (v := false) ?c7 (fun h => nomatch h) fun _ => sm_nil)
            case' c7 =>
              refine' et_eq (ew_et (ew_or (et_eq (et_not (v := true) (et_ev (callF hX Gw (by decide) ?d7 ?e7 rWhole.mk ?f7))) rfl) fun _ => ew_or1 ?g7)) ?h7
              case' d7 => decide +kernel
              case' e7 => wtm_at "args"
              case' f7 => decide +kernel
              case' g7 => wtm_at "test"
              case h7 => simp
          case' l5 => exact LeA.cons LeC.refl (LeA.cons LeC.un (LeA.cons LeC.un (LeA.cons LeC.un (LeA.cons LeC.un LeA.nil))))
        · refine' sm_le (sm_one (s1_if (v := false) ?c8 (fun h => nomatch h) fun _ => ?f8)) ?l8
          case' c8 =>
            refine' et_eq ?d8 ?e8
            case' d8 => wtm_at "test"
            case e8 =>
              have : prmB n = false := by
                cases e : prmB n with
                | false => rfl
                | true => exact absurd (prmB_iff.mp e) hp
              rw [this]; rfl
          case' f8 =>
            refine' sm_one (s1_if (v := false) ?c9 (fun h => nomatch h) fun _ => sm_nil)
            case' c9 =>
              refine' et_eq (et_not (v := true) (et_ev (callF hX Glr (by decide) ?d9 ?e9 (rLRefused.mk (.no hp)) ?f9))) rfl
              case' d9 => decide +kernel
              case' e9 => wtm_at "args"
              case' f9 => decide +kernel
          case' l8 => exact LeA.cons LeC.refl (LeA.cons LeC.un (LeA.cons LeC.un (LeA.cons LeC.un (LeA.cons LeC.un LeA.nil))))
      · have hd2 : isWh d = false := by
          cases e : isWh d with
          | false => rfl
          | true => exact absurd e hd
        refine' sm_le (sm_one (s1_if (v := false) ?c10 (fun h => nomatch h) fun _ => ?f10)) ?l10
        case' c10 =>
          refine' ew_et (v := false) ?f38
          case' f38 =>
            refine' ew_and (v := false) (u := true) ?f39 fun h => nomatch h
            case' f39 =>
              refine' et_eq ?f40 hd2
              case' f40 => wtm_at "test"
        case' f10 =>
          refine' sm_one (s1_if (v := false) ?c11 (fun h => nomatch h) fun _ => sm_nil)
          case' c11 =>
            refine' et_eq (et_not (v := true) (et_ev (callF hX Glr (by decide) ?d11 ?e11 (rLRefused.mk (.odd hd2)) ?f11))) rfl
            case' d11 => decide +kernel
            case' e11 => wtm_at "args"
            case' f11 => decide +kernel
        case' l10 => exact LeA.cons LeC.refl (LeA.cons LeC.un (LeA.cons LeC.un (LeA.cons LeC.un (LeA.cons LeC.un LeA.nil))))
    refine' sm_end ?s12
    case' s12 => wtm_at "st"
end
end W

namespace W
open PySem PySem.Spec PyProof.Rows L2 LR
def spL (K : PySem.W.Frag) : L2.Sp := fun vs H Q _ => ∃ (a : Addr) (ns : List Int), vs = [.ref a] ∧ SqL K H a (ns.map V.int) ∧ ns.length ≤ 63 ∧ ∀ H', Q (.bl true) H'
theorem all_mk {l : PySem.W.OpenLaw} {w : World} {K : PySem.W.Frag} {h : Heap} {mg : Str → Option Value} {fa : Addr} (X : K.In h) (G : h.Ns mainGlobals mg) (hfa : mg "law" = some (.ref fa))
    {f__law_prime : Addr} {oc__law_prime kV__law_prime dc__law_prime pm__law_prime cd__law_prime ct__law_prime : Value} {od__law_prime an__law_prime : Option Addr} {sl__law_prime : Array (Option Value)}
    (a__law_prime : PySem.W.nsIn K mainGlobals "_law_prime" = some (some (.ref f__law_prime))) (l__law_prime : K.lookup f__law_prime = some ⟨oc__law_prime, od__law_prime, .func (PySem.W.fnOf "_law_prime" "_law_prime" (defArgs s__law_prime) (defBody s__law_prime) (defScope s__law_prime) .none kV__law_prime dc__law_prime pm__law_prime an__law_prime cd__law_prime ct__law_prime), sl__law_prime⟩) (c__law_prime : PySem.W.codeIn K cd__law_prime "_law_prime" = true) (k__law_prime : PySem.W.keepIn K (.ref f__law_prime) = true)
    {f__law_whole : Addr} {oc__law_whole kV__law_whole dc__law_whole pm__law_whole cd__law_whole ct__law_whole : Value} {od__law_whole an__law_whole : Option Addr} {sl__law_whole : Array (Option Value)}
    (a__law_whole : PySem.W.nsIn K mainGlobals "_law_whole" = some (some (.ref f__law_whole))) (l__law_whole : K.lookup f__law_whole = some ⟨oc__law_whole, od__law_whole, .func (PySem.W.fnOf "_law_whole" "_law_whole" (defArgs s__law_whole) (defBody s__law_whole) (defScope s__law_whole) .none kV__law_whole dc__law_whole pm__law_whole an__law_whole cd__law_whole ct__law_whole), sl__law_whole⟩) (c__law_whole : PySem.W.codeIn K cd__law_whole "_law_whole" = true) (k__law_whole : PySem.W.keepIn K (.ref f__law_whole) = true)
    {f_is_whole : Addr} {oc_is_whole kV_is_whole dc_is_whole pm_is_whole cd_is_whole ct_is_whole : Value} {od_is_whole an_is_whole : Option Addr} {sl_is_whole : Array (Option Value)}
    (a_is_whole : PySem.W.nsIn K mainGlobals "is_whole" = some (some (.ref f_is_whole))) (l_is_whole : K.lookup f_is_whole = some ⟨oc_is_whole, od_is_whole, .func (PySem.W.fnOf "is_whole" "is_whole" (defArgs s_is_whole) (defBody s_is_whole) (defScope s_is_whole) .none kV_is_whole dc_is_whole pm_is_whole an_is_whole cd_is_whole ct_is_whole), sl_is_whole⟩) (c_is_whole : PySem.W.codeIn K cd_is_whole "is_whole" = true) (k_is_whole : PySem.W.keepIn K (.ref f_is_whole) = true)
    {f_prime : Addr} {oc_prime kV_prime dc_prime pm_prime cd_prime ct_prime : Value} {od_prime an_prime : Option Addr} {sl_prime : Array (Option Value)}
    (a_prime : PySem.W.nsIn K mainGlobals "prime" = some (some (.ref f_prime))) (l_prime : K.lookup f_prime = some ⟨oc_prime, od_prime, .func (PySem.W.fnOf "prime" "prime" (defArgs s_prime) (defBody s_prime) (defScope s_prime) .none kV_prime dc_prime pm_prime an_prime cd_prime ct_prime), sl_prime⟩) (c_prime : PySem.W.codeIn K cd_prime "prime" = true) (k_prime : PySem.W.keepIn K (.ref f_prime) = true)
    {f__law_thing : Addr} {oc__law_thing kV__law_thing dc__law_thing pm__law_thing cd__law_thing ct__law_thing : Value} {od__law_thing an__law_thing : Option Addr} {sl__law_thing : Array (Option Value)}
    (a__law_thing : PySem.W.nsIn K mainGlobals "_law_thing" = some (some (.ref f__law_thing))) (l__law_thing : K.lookup f__law_thing = some ⟨oc__law_thing, od__law_thing, .func (PySem.W.fnOf "_law_thing" "_law_thing" (defArgs s__law_thing) (defBody s__law_thing) (defScope s__law_thing) .none kV__law_thing dc__law_thing pm__law_thing an__law_thing cd__law_thing ct__law_thing), sl__law_thing⟩) (c__law_thing : PySem.W.codeIn K cd__law_thing "_law_thing" = true) (k__law_thing : PySem.W.keepIn K (.ref f__law_thing) = true)
    {f__law_is_prime : Addr} {oc__law_is_prime kV__law_is_prime dc__law_is_prime pm__law_is_prime cd__law_is_prime ct__law_is_prime : Value} {od__law_is_prime an__law_is_prime : Option Addr} {sl__law_is_prime : Array (Option Value)}
    (a__law_is_prime : PySem.W.nsIn K mainGlobals "_law_is_prime" = some (some (.ref f__law_is_prime))) (l__law_is_prime : K.lookup f__law_is_prime = some ⟨oc__law_is_prime, od__law_is_prime, .func (PySem.W.fnOf "_law_is_prime" "_law_is_prime" (defArgs s__law_is_prime) (defBody s__law_is_prime) (defScope s__law_is_prime) .none kV__law_is_prime dc__law_is_prime pm__law_is_prime an__law_is_prime cd__law_is_prime ct__law_is_prime), sl__law_is_prime⟩) (c__law_is_prime : PySem.W.codeIn K cd__law_is_prime "_law_is_prime" = true) (k__law_is_prime : PySem.W.keepIn K (.ref f__law_is_prime) = true)
    {f__law_refused : Addr} {oc__law_refused kV__law_refused dc__law_refused pm__law_refused cd__law_refused ct__law_refused : Value} {od__law_refused an__law_refused : Option Addr} {sl__law_refused : Array (Option Value)}
    (a__law_refused : PySem.W.nsIn K mainGlobals "_law_refused" = some (some (.ref f__law_refused))) (l__law_refused : K.lookup f__law_refused = some ⟨oc__law_refused, od__law_refused, .func (PySem.W.fnOf "_law_refused" "_law_refused" (defArgs s__law_refused) (defBody s__law_refused) (defScope s__law_refused) .none kV__law_refused dc__law_refused pm__law_refused an__law_refused cd__law_refused ct__law_refused), sl__law_refused⟩) (c__law_refused : PySem.W.codeIn K cd__law_refused "_law_refused" = true) (k__law_refused : PySem.W.keepIn K (.ref f__law_refused) = true)
    {f_law : Addr} {oc_law kV_law dc_law pm_law cd_law ct_law : Value} {od_law an_law : Option Addr} {sl_law : Array (Option Value)}
    (a_law : PySem.W.nsIn K mainGlobals "law" = some (some (.ref f_law))) (l_law : K.lookup f_law = some ⟨oc_law, od_law, .func (PySem.W.fnOf "law" "law" (defArgs s_law) (defBody s_law) (defScope s_law) .none kV_law dc_law pm_law an_law cd_law ct_law), sl_law⟩) (c_law : PySem.W.codeIn K cd_law "law" = true) (k_law : PySem.W.keepIn K (.ref f_law) = true)
    (z_ValueError : PySem.W.nsIn K mainGlobals "ValueError" = some none)
    (z_any : PySem.W.nsIn K mainGlobals "any" = some none)
    (z_bool : PySem.W.nsIn K mainGlobals "bool" = some none)
    (z_int : PySem.W.nsIn K mainGlobals "int" = some none)
    (z_isinstance : PySem.W.nsIn K mainGlobals "isinstance" = some none)
    (z_list : PySem.W.nsIn K mainGlobals "list" = some none)
    (z_range : PySem.W.nsIn K mainGlobals "range" = some none)
    {e_LongError : Addr} (ea_LongError : PySem.W.nsIn K mainGlobals "LongError" = some (some (.ref e_LongError)))
    {e_Lossy : Addr} (ea_Lossy : PySem.W.nsIn K mainGlobals "Lossy" = some (some (.ref e_Lossy)))
    {e_NoNumber : Addr} (ea_NoNumber : PySem.W.nsIn K mainGlobals "NoNumber" = some (some (.ref e_NoNumber)))
    {e_NoPrime : Addr} (ea_NoPrime : PySem.W.nsIn K mainGlobals "NoPrime" = some (some (.ref e_NoPrime)))
    {e_NoProgram : Addr} (ea_NoProgram : PySem.W.nsIn K mainGlobals "NoProgram" = some (some (.ref e_NoProgram)))
    {e_NoText : Addr} (ea_NoText : PySem.W.nsIn K mainGlobals "NoText" = some (some (.ref e_NoText)))
    {e_TooLong : Addr} (ea_TooLong : PySem.W.nsIn K mainGlobals "TooLong" = some (some (.ref e_TooLong)))
    (eb_NoPrime : PySem.W.excIn K e_NoPrime [.type "ValueError", .type "Exception", .type "BaseException", .type "object"] "ValueError.__new__" = true) (ec_NoPrime : PySem.W.keepIn K (.ref e_NoPrime) = true) (ed_NoPrime : PySem.W.subIn K (.ref e_NoPrime) (.type "BaseException") = some true) (ee_NoPrime : PySem.W.typeIn K (.ref e_NoPrime) = some (.type "type"))
    (ex1_NoPrime : PySem.W.findIn K (.ref e_NoPrime) "__getattribute__" = some (some (.builtin "BaseException.__getattribute__")))
    (ex2_NoPrime : PySem.W.findIn K (.ref e_NoPrime) "__getattr__" = some none)
    (ex3_NoPrime : PySem.W.subIn K (.ref e_NoPrime) (.type "BaseException") = some true)
    (ex4_NoPrime : PySem.W.hasDictIn K e_NoPrime = true)
    (ex5_NoPrime : PySem.W.findIn K (.ref e_NoPrime) "__class__" = some (some (.builtin "object.__class__")))
    (ex6_NoPrime : PySem.W.specialIn K (.builtin "object.__class__") "__get__" = some (some (.builtin "getset_descriptor.__get__")))
    (ex7_NoPrime : PySem.W.takesIn K (.builtin "object.__class__") = some true)
    (ex8_NoPrime : PySem.W.mroIn K e_NoPrime (.type "object") = some true)
    (eo_NoPrime_Lossy : PySem.W.kitOne K (.ref e_NoPrime) (.ref e_Lossy) = some false)
    (eo_NoPrime_NoNumber : PySem.W.kitOne K (.ref e_NoPrime) (.ref e_NoNumber) = some false)
    (eo_NoPrime_NoPrime : PySem.W.kitOne K (.ref e_NoPrime) (.ref e_NoPrime) = some true)
    (eo_NoPrime_NoProgram : PySem.W.kitOne K (.ref e_NoPrime) (.ref e_NoProgram) = some false)
    (eo_NoPrime_NoText : PySem.W.kitOne K (.ref e_NoPrime) (.ref e_NoText) = some false)
    (eo_NoPrime_TooLong : PySem.W.kitOne K (.ref e_NoPrime) (.ref e_TooLong) = some false)
    (ev_NoPrime_ValueError : PySem.W.kitOne K (.ref e_NoPrime) (.type "ValueError") = some true)
    (em_NoPrime_LongError : PySem.W.exmOne K (.ref e_NoPrime) (.ref e_LongError) = some true) :
    ∃ fd : FuncData, (∀ (s : Shared) (v : Value), BindsTo s fd ⟨[v], []⟩ [("script", v)]) ∧ ∀ base : Heap, K.In base → base.Ns mainGlobals mg → FnOk l.prog w K mg base (L2.CX l.prog w) 4 fa fd ["script"] (spL K) := by
  have m__law_prime : mg "_law_prime" = some (.ref f__law_prime) := PySem.W.mg_of X G a__law_prime
  have F__law_prime := fun_mk (st := s__law_prime) l__law_prime c__law_prime k__law_prime
  have b__law_prime := F__law_prime.binds (ps := ["cell"]) fun _ _ _ _ _ _ us hl => match us, hl with | [_], _ => rfl
  have m__law_whole : mg "_law_whole" = some (.ref f__law_whole) := PySem.W.mg_of X G a__law_whole
  have F__law_whole := fun_mk (st := s__law_whole) l__law_whole c__law_whole k__law_whole
  have b__law_whole := F__law_whole.binds (ps := ["found"]) fun _ _ _ _ _ _ us hl => match us, hl with | [_], _ => rfl
  have m_is_whole : mg "is_whole" = some (.ref f_is_whole) := PySem.W.mg_of X G a_is_whole
  have F_is_whole := fun_mk (st := s_is_whole) l_is_whole c_is_whole k_is_whole
  have b_is_whole := F_is_whole.binds (ps := ["thing"]) fun _ _ _ _ _ _ us hl => match us, hl with | [_], _ => rfl
  have m_prime : mg "prime" = some (.ref f_prime) := PySem.W.mg_of X G a_prime
  have F_prime := fun_mk (st := s_prime) l_prime c_prime k_prime
  have b_prime := F_prime.binds (ps := ["thing"]) fun _ _ _ _ _ _ us hl => match us, hl with | [_], _ => rfl
  have m__law_thing : mg "_law_thing" = some (.ref f__law_thing) := PySem.W.mg_of X G a__law_thing
  have F__law_thing := fun_mk (st := s__law_thing) l__law_thing c__law_thing k__law_thing
  have b__law_thing := F__law_thing.binds (ps := ["cell"]) fun _ _ _ _ _ _ us hl => match us, hl with | [_], _ => rfl
  have m__law_is_prime : mg "_law_is_prime" = some (.ref f__law_is_prime) := PySem.W.mg_of X G a__law_is_prime
  have F__law_is_prime := fun_mk (st := s__law_is_prime) l__law_is_prime c__law_is_prime k__law_is_prime
  have b__law_is_prime := F__law_is_prime.binds (ps := ["n"]) fun _ _ _ _ _ _ us hl => match us, hl with | [_], _ => rfl
  have m__law_refused : mg "_law_refused" = some (.ref f__law_refused) := PySem.W.mg_of X G a__law_refused
  have F__law_refused := fun_mk (st := s__law_refused) l__law_refused c__law_refused k__law_refused
  have b__law_refused := F__law_refused.binds (ps := ["thing"]) fun _ _ _ _ _ _ us hl => match us, hl with | [_], _ => rfl
  have m_law : mg "law" = some (.ref f_law) := PySem.W.mg_of X G a_law
  have F_law := fun_mk (st := s_law) l_law c_law k_law
  have b_law := F_law.binds (ps := ["script"]) fun _ _ _ _ _ _ us hl => match us, hl with | [_], _ => rfl
  have y_ValueError : mg "ValueError" = none := PySem.W.mg_none_of X G z_ValueError
  have y_any : mg "any" = none := PySem.W.mg_none_of X G z_any
  have y_bool : mg "bool" = none := PySem.W.mg_none_of X G z_bool
  have y_int : mg "int" = none := PySem.W.mg_none_of X G z_int
  have y_isinstance : mg "isinstance" = none := PySem.W.mg_none_of X G z_isinstance
  have y_list : mg "list" = none := PySem.W.mg_none_of X G z_list
  have y_range : mg "range" = none := PySem.W.mg_none_of X G z_range
  have x_NoPrime : XC K mg "NoPrime" := ⟨_, PySem.W.mg_of X G ea_NoPrime, eb_NoPrime, ec_NoPrime, ed_NoPrime, ee_NoPrime⟩
  have xd_NoPrime : XD K mg "NoPrime" := ⟨_, PySem.W.mg_of X G ea_NoPrime, ⟨ex1_NoPrime, ex2_NoPrime, ex3_NoPrime, ex4_NoPrime, ex5_NoPrime, ex6_NoPrime, ex7_NoPrime, ex8_NoPrime⟩⟩
  have xo_NoPrime_Lossy : XO K mg "NoPrime" "Lossy" false := ⟨_, _, PySem.W.mg_of X G ea_NoPrime, PySem.W.mg_of X G ea_Lossy, eo_NoPrime_Lossy⟩
  have xo_NoPrime_NoNumber : XO K mg "NoPrime" "NoNumber" false := ⟨_, _, PySem.W.mg_of X G ea_NoPrime, PySem.W.mg_of X G ea_NoNumber, eo_NoPrime_NoNumber⟩
  have xo_NoPrime_NoPrime : XO K mg "NoPrime" "NoPrime" true := ⟨_, _, PySem.W.mg_of X G ea_NoPrime, PySem.W.mg_of X G ea_NoPrime, eo_NoPrime_NoPrime⟩
  have xo_NoPrime_NoProgram : XO K mg "NoPrime" "NoProgram" false := ⟨_, _, PySem.W.mg_of X G ea_NoPrime, PySem.W.mg_of X G ea_NoProgram, eo_NoPrime_NoProgram⟩
  have xo_NoPrime_NoText : XO K mg "NoPrime" "NoText" false := ⟨_, _, PySem.W.mg_of X G ea_NoPrime, PySem.W.mg_of X G ea_NoText, eo_NoPrime_NoText⟩
  have xo_NoPrime_TooLong : XO K mg "NoPrime" "TooLong" false := ⟨_, _, PySem.W.mg_of X G ea_NoPrime, PySem.W.mg_of X G ea_TooLong, eo_NoPrime_TooLong⟩
  have xv_NoPrime_ValueError : XV K mg "NoPrime" "ValueError" true := ⟨_, PySem.W.mg_of X G ea_NoPrime, ev_NoPrime_ValueError⟩
  have xm_NoPrime_LongError : XM K mg "NoPrime" "LongError" := ⟨_, _, PySem.W.mg_of X G ea_NoPrime, PySem.W.mg_of X G ea_LongError, em_NoPrime_LongError⟩
  have e := hfa.symm.trans m_law
  cases e
  refine ⟨PySem.W.fnOf "law" "law" (defArgs s_law) (defBody s_law) (defScope s_law) .none kV_law dc_law pm_law an_law cd_law ct_law, fun s v => .of_eq rfl, fun base _ _ => ?_⟩
  have key : ∃ f fd, FnOk l.prog w K mg base (L2.CX l.prog w) 4 f fd ["script"] (Spec K mg rLaw) ∧ mg "law" = some (.ref f) ∧ fd = PySem.W.fnOf "law" "law" (defArgs s_law) (defBody s_law) (defScope s_law) .none kV_law dc_law pm_law an_law cd_law ct_law := by
    have g__law_prime := ok_prime (P := l.prog) (w := w) (base := base) F__law_prime m__law_prime b__law_prime (by with_reducible assumption) (by with_reducible assumption)
    have g__law_whole := ok_whole (P := l.prog) (w := w) (base := base) F__law_whole m__law_whole b__law_whole (by with_reducible assumption) (by with_reducible assumption) (by with_reducible assumption)
    have g_is_whole := ok_is_whole (P := l.prog) (w := w) (base := base) F_is_whole m_is_whole b_is_whole (by with_reducible assumption) (by with_reducible assumption) (by with_reducible assumption)
    have g_prime := ok_primeA (P := l.prog) (w := w) (base := base) F_prime m_prime b_prime (by with_reducible assumption) (by with_reducible assumption)
    have g__law_thing := ok_thing (P := l.prog) (w := w) (base := base) F__law_thing m__law_thing b__law_thing (by with_reducible assumption)
    have g__law_is_prime := ok_lisprime (P := l.prog) (w := w) (base := base) F__law_is_prime m__law_is_prime b__law_is_prime (by with_reducible assumption) (by with_reducible assumption)
    have g__law_refused := ok_lrefused (P := l.prog) (w := w) (base := base) F__law_refused m__law_refused b__law_refused (by with_reducible assumption) (by with_reducible assumption) (by with_reducible assumption) (by with_reducible assumption) (by with_reducible assumption) (by with_reducible assumption) (by with_reducible assumption) (by with_reducible assumption) (by with_reducible assumption) (by with_reducible assumption) (by with_reducible assumption) (by with_reducible assumption)
    have g_law := ok_law (P := l.prog) (w := w) (base := base) F_law m_law b_law (by with_reducible assumption) (by with_reducible assumption) (by with_reducible assumption) (by with_reducible assumption) (by with_reducible assumption) (by with_reducible assumption) (by with_reducible assumption) (by with_reducible assumption) (by with_reducible assumption)
    exact g_law.withFd m_law l_law
  obtain ⟨f, fd, hF, e1, e2⟩ := key
  have e3 := hfa.symm.trans e1
  cases e3
  subst e2
  refine hF.imp fun vs H Q E hsp => ?_
  obtain ⟨a, ns, rfl, hS, hlen, q⟩ := hsp
  refine ⟨H, [.list (ns.map .int)], .ok (.dat (.bool true)), Same.refl H, .cons (.lst hS (dpAll_ints ns)) .nil, .mk hlen, fun v I' H' g hv => ?_⟩
  rw [dp_bool hv]
  exact q H'
end W
open PySem PySem.W PyProof.Rows
set_option maxHeartbeats 0 in
theorem PySem.Challenge.cw_longrounds_k01_primes_holds : PySem.Challenge.rw_longrounds_k01_primes.Holds := by
  w_on; o_law; k_head; (case hw => w_witness2)
  k_fill
  refine L2.walk_of (l := PySem.Challenge.rw_longrounds_k01_primes) (n := 63) (k := 4) (x := "script") (CX := fun w => L2.CX (PySem.Challenge.rw_longrounds_k01_primes).prog w) (sp := fun w => W.spL _) rfl (by decide) rfl ⟨rfl, by decide, by decide⟩ (fun w h Y => PySem.W.kIn_of Y) ?F (fun _ _ a ns hl _ hS => ⟨a, ns, rfl, hS, hl, fun _ => rfl⟩) (fun _ _ _ _ _ h => by
    obtain ⟨_, _, _, _, _, _, _, _, _, _, _, _, z⟩ := h
    exact z.elim)
  case F =>
    intro w mg fa h KX G hmg
    refine' W.all_mk KX G hmg ?a__law_prime ?l__law_prime ?c__law_prime ?k__law_prime ?a__law_whole ?l__law_whole ?c__law_whole ?k__law_whole ?a_is_whole ?l_is_whole ?c_is_whole ?k_is_whole ?a_prime ?l_prime ?c_prime ?k_prime ?a__law_thing ?l__law_thing ?c__law_thing ?k__law_thing ?a__law_is_prime ?l__law_is_prime ?c__law_is_prime ?k__law_is_prime ?a__law_refused ?l__law_refused ?c__law_refused ?k__law_refused ?a_law ?l_law ?c_law ?k_law ?z_ValueError ?z_any ?z_bool ?z_int ?z_isinstance ?z_list ?z_range ?ea_LongError ?ea_Lossy ?ea_NoNumber ?ea_NoPrime ?ea_NoProgram ?ea_NoText ?ea_TooLong ?eb_NoPrime ?ec_NoPrime ?ed_NoPrime ?ee_NoPrime ?ex1_NoPrime ?ex2_NoPrime ?ex3_NoPrime ?ex4_NoPrime ?ex5_NoPrime ?ex6_NoPrime ?ex7_NoPrime ?ex8_NoPrime ?eo_NoPrime_Lossy ?eo_NoPrime_NoNumber ?eo_NoPrime_NoPrime ?eo_NoPrime_NoProgram ?eo_NoPrime_NoText ?eo_NoPrime_TooLong ?ev_NoPrime_ValueError ?em_NoPrime_LongError
    (case a__law_prime => k_is)
    (case l__law_prime => k_is)
    (case c__law_prime => k_is)
    (case k__law_prime => k_is)
    (case a__law_whole => k_is)
    (case l__law_whole => k_is)
    (case c__law_whole => k_is)
    (case k__law_whole => k_is)
    (case a_is_whole => k_is)
    (case l_is_whole => k_is)
    (case c_is_whole => k_is)
    (case k_is_whole => k_is)
    (case a_prime => k_is)
    (case l_prime => k_is)
    (case c_prime => k_is)
    (case k_prime => k_is)
    (case a__law_thing => k_is)
    (case l__law_thing => k_is)
    (case c__law_thing => k_is)
    (case k__law_thing => k_is)
    (case a__law_is_prime => k_is)
    (case l__law_is_prime => k_is)
    (case c__law_is_prime => k_is)
    (case k__law_is_prime => k_is)
    (case a__law_refused => k_is)
    (case l__law_refused => k_is)
    (case c__law_refused => k_is)
    (case k__law_refused => k_is)
    (case a_law => k_is)
    (case l_law => k_is)
    (case c_law => k_is)
    (case k_law => k_is)
    (case z_ValueError => k_is)
    (case z_any => k_is)
    (case z_bool => k_is)
    (case z_int => k_is)
    (case z_isinstance => k_is)
    (case z_list => k_is)
    (case z_range => k_is)
    (case ea_LongError => k_is)
    (case ea_Lossy => k_is)
    (case ea_NoNumber => k_is)
    (case ea_NoPrime => k_is)
    (case ea_NoProgram => k_is)
    (case ea_NoText => k_is)
    (case ea_TooLong => k_is)
    (case eb_NoPrime => k_exc)
    (case ec_NoPrime => k_is)
    (case ed_NoPrime => k_is)
    (case ee_NoPrime => k_is)
    (case ex1_NoPrime => k_is)
    (case ex2_NoPrime => k_is)
    (case ex3_NoPrime => k_is)
    (case ex4_NoPrime => k_is)
    (case ex5_NoPrime => k_is)
    (case ex6_NoPrime => k_is)
    (case ex7_NoPrime => k_is)
    (case ex8_NoPrime => k_is)
    (case eo_NoPrime_Lossy => kit_is)
    (case eo_NoPrime_NoNumber => kit_is)
    (case eo_NoPrime_NoPrime => kit_is)
    (case eo_NoPrime_NoProgram => kit_is)
    (case eo_NoPrime_NoText => kit_is)
    (case eo_NoPrime_TooLong => kit_is)
    (case ev_NoPrime_ValueError => kit_is)
    (case em_NoPrime_LongError => kts_exm)
