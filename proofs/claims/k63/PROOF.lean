import PyProof.Rows.All
import Wide.All
import OpenK.AllK
import Wide.FinOn
import HandS.ForMost
import HandS.ForExc
import HandS.IsInst
import HandS.TupAny
import HandS.Wide
import HandS.Exc
import HandS.ExcOwn
import HandS.TupMul
import HandS.Iter
import HandS.TryOnly
import HandS.Style
import HandS.Deep
import HandS.Rev
import HandS.Zip
import HandS.ExcIs
import HandS.SortKw
import KE.SortKeyHeap
import KE.GoesMore
import KE.GoesZip
import HandS.SetFor
import KE.KTupSum
import HandS.More
import HandS.Dict
import HandS.Conv
import PySem.Challenge.RW_longrounds_k63_primes_of_rings
set_option Elab.async false
set_option linter.all false
set_option maxRecDepth 100000
set_option maxHeartbeats 4000000
set_option Elab.async false
set_option linter.all false
set_option maxRecDepth 100000
set_option maxHeartbeats 4000000
/-! The layer LR, part a: data on the heap, cells, what is kept, judgements of expressions. -/
namespace LR
open PySem PySem.Spec PyProof.Rows L2

/-- an object of the def's own that may still change -/
inductive Ob where
  | lst (ds : List PyData)
  | dct (kvs : List (Key × PyData))
  | dtt (kvs : List (List Key × PyData))
/-- what is known of a name (rf: it holds that reference; tpo: of results alone: a new tuple of data ds and behind them a new list es; kn: that reference, which is such data) -/
inductive C where
  | un
  | dat (d : PyData)
  | own (o : Ob)
  | rf (a : Addr)
  | tpo (ds es : List PyData)
  | kn (a : Addr) (d : PyData)

/-! data on the heap; tuples are tracked objects -/
mutual
inductive Dp (K : PySem.W.Frag) (H : Hp) : V → PyData → Prop
  | non : Dp K H .non .none
  | bl (b : Bool) : Dp K H (.bl b) (.bool b)
  | int (i : Int) : Dp K H (.int i) (.int i)
  | str (x : Str) : Dp K H (.str x) (.str x)
  | lst {a : Addr} {xs : List V} {ds : List PyData} : SqL K H a xs → DpAll K H xs ds → Dp K H (.ref a) (.list ds)
  | tup {a : Addr} {xs : List V} {ds : List PyData} : H a = some (.tup xs) → DpAll K H xs ds → Dp K H (.ref a) (.tuple ds)
inductive DpAll (K : PySem.W.Frag) (H : Hp) : List V → List PyData → Prop
  | nil : DpAll K H [] []
  | cons {v : V} {vs : List V} {d : PyData} {ds : List PyData} : Dp K H v d → DpAll K H vs ds → DpAll K H (v :: vs) (d :: ds)
end
section
variable {K : PySem.W.Frag}
mutual
theorem Dp.kit {H : Hp} : ∀ {v : V} {d : PyData}, Dp K H v d → L2.Dp K H v d
  | _, _, .non => .non
  | _, _, .bl b => .bl b
  | _, _, .int i => .int i
  | _, _, .str x => .str x
  | _, _, .lst h a => .lst h (DpAll.kit a)
  | _, _, .tup h a => .tup (.inl (.inl h)) (DpAll.kit a)
theorem DpAll.kit {H : Hp} : ∀ {vs : List V} {ds : List PyData}, DpAll K H vs ds → L2.DpAll K H vs ds
  | _, _, .nil => .nil
  | _, _, .cons h t => .cons (Dp.kit h) (DpAll.kit t)
end
mutual
theorem dp_mono {H H' : Hp} (e : Same H H') : ∀ {v : V} {d : PyData}, Dp K H v d → Dp K H' v d
  | _, _, .non => .non
  | _, _, .bl b => .bl b
  | _, _, .int i => .int i
  | _, _, .str x => .str x
  | _, _, .lst h a => .lst (e.seq h) (dpAll_mono e a)
  | _, _, .tup h a => .tup (e _ _ h) (dpAll_mono e a)
theorem dpAll_mono {H H' : Hp} (e : Same H H') : ∀ {vs : List V} {ds : List PyData}, DpAll K H vs ds → DpAll K H' vs ds
  | _, _, .nil => .nil
  | _, _, .cons h t => .cons (dp_mono e h) (dpAll_mono e t)
end
theorem same_l {H H' : Hp} {a : Addr} {xs : List V} (e : Same H H') (h : SqL K H a xs) : SqL K H' a xs := e.seq h
theorem same_t {H H' : Hp} {a : Addr} {xs : List V} (e : Same H H') (h : SqT K H a xs) : SqT K H' a xs := by
  rcases h with (h | ⟨o, h⟩) | h
  · exact .inl (.inl (e _ _ h))
  · exact .inl (.inr ⟨o, e _ _ h⟩)
  · exact .inr h
theorem dpAll_len {H : Hp} : ∀ {vs : List V} {ds : List PyData}, DpAll K H vs ds → vs.length = ds.length
  | _, _, .nil => rfl
  | _, _, .cons _ t => by rw [List.length_cons, List.length_cons, dpAll_len t]
theorem dpAll_get {H : Hp} : ∀ {vs : List V} {ds : List PyData}, DpAll K H vs ds → ∀ {i : Nat} {d : PyData}, ds[i]? = some d → ∃ v, vs[i]? = some v ∧ Dp K H v d
  | _, _, .nil, _, _, e => by simp at e
  | _, _, .cons h _, 0, _, e => by simp at e; subst e; exact ⟨_, rfl, h⟩
  | _, _, .cons _ t, i + 1, d, e => by
    obtain ⟨v, h1, h2⟩ := dpAll_get t (i := i) (d := d) (by simpa using e)
    exact ⟨v, by simpa using h1, h2⟩
theorem dpAll_getV {H : Hp} : ∀ {vs : List V} {ds : List PyData}, DpAll K H vs ds → ∀ {i : Nat} {v : V}, vs[i]? = some v → ∃ d, ds[i]? = some d ∧ Dp K H v d
  | _, _, .nil, _, _, e => by simp at e
  | _, _, .cons h _, 0, _, e => by simp at e; subst e; exact ⟨_, rfl, h⟩
  | _, _, .cons _ t, i + 1, d, e => by
    obtain ⟨v, h1, h2⟩ := dpAll_getV t (i := i) (v := d) (by simpa using e)
    exact ⟨v, by simpa using h1, h2⟩
theorem dpAll_append {H : Hp} : ∀ {vs ws : List V} {ds es : List PyData}, DpAll K H vs ds → DpAll K H ws es → DpAll K H (vs ++ ws) (ds ++ es)
  | _, _, _, _, .nil, s => s
  | _, _, _, _, .cons h t, s => .cons h (dpAll_append t s)
theorem dpAll_one {H : Hp} {v : V} {d : PyData} (h : Dp K H v d) : DpAll K H [v] [d] := .cons h .nil
theorem dpAll_take {H : Hp} : ∀ {vs : List V} {ds : List PyData} (n : Nat), DpAll K H vs ds → DpAll K H (vs.take n) (ds.take n)
  | _, _, 0, _ => .nil
  | _, _, _ + 1, .nil => .nil
  | _, _, n + 1, .cons h t => .cons h (dpAll_take n t)
theorem dpAll_drop {H : Hp} : ∀ {vs : List V} {ds : List PyData} (n : Nat), DpAll K H vs ds → DpAll K H (vs.drop n) (ds.drop n)
  | _, _, 0, h => h
  | _, _, _ + 1, .nil => .nil
  | _, _, n + 1, .cons _ t => dpAll_drop n t
theorem dpAll_set {H : Hp} {v : V} {d : PyData} (h : Dp K H v d) : ∀ {vs : List V} {ds : List PyData} (n : Nat), DpAll K H vs ds → DpAll K H (vs.set n v) (ds.set n d)
  | _, _, _, .nil => .nil
  | _, _, 0, .cons _ t => .cons h t
  | _, _, n + 1, .cons q t => .cons q (dpAll_set h n t)
theorem dpAll_dropLast {H : Hp} {vs : List V} {ds : List PyData} (h : DpAll K H vs ds) : DpAll K H vs.dropLast ds.dropLast := by
  rw [List.dropLast_eq_take, List.dropLast_eq_take, dpAll_len h]
  exact dpAll_take _ h
theorem dpAll_reverse {H : Hp} : ∀ {vs : List V} {ds : List PyData}, DpAll K H vs ds → DpAll K H vs.reverse ds.reverse
  | _, _, .nil => .nil
  | _, _, .cons h t => by
    rw [List.reverse_cons, List.reverse_cons]
    exact dpAll_append (dpAll_reverse t) (dpAll_one h)
theorem dpAll_ints {H : Hp} : ∀ (ns : List Int), DpAll K H (ns.map V.int) (ns.map PyData.int)
  | [] => .nil
  | n :: r => .cons (.int n) (dpAll_ints r)
theorem dp_int {H : Hp} {v : V} {i : Int} (h : Dp K H v (.int i)) : v = .int i := by cases h; rfl
theorem dp_str {H : Hp} {v : V} {x : Str} (h : Dp K H v (.str x)) : v = .str x := by cases h; rfl
theorem dp_bool {H : Hp} {v : V} {b : Bool} (h : Dp K H v (.bool b)) : v = .bl b := by cases h; rfl
theorem dp_none {H : Hp} {v : V} (h : Dp K H v .none) : v = .non := by cases h; rfl
theorem dp_tup {H : Hp} {v : V} {ds : List PyData} (h : Dp K H v (.tuple ds)) : ∃ a xs, v = .ref a ∧ SqT K H a xs ∧ DpAll K H xs ds := by cases h; exact ⟨_, _, rfl, .inl (.inl (by assumption)), by assumption⟩
theorem dp_tupH {H : Hp} {v : V} {ds : List PyData} (h : Dp K H v (.tuple ds)) : ∃ a xs, v = .ref a ∧ H a = some (.tup xs) ∧ DpAll K H xs ds := by cases h; exact ⟨_, _, rfl, by assumption, by assumption⟩
theorem dp_lst {H : Hp} {v : V} {ds : List PyData} (h : Dp K H v (.list ds)) : ∃ a xs, v = .ref a ∧ SqL K H a xs ∧ DpAll K H xs ds := by cases h; exact ⟨_, _, rfl, by assumption, by assumption⟩
theorem ints_of {H : Hp} : ∀ {vs : List V} {ns : List Int}, DpAll K H vs (ns.map PyData.int) → vs = ns.map V.int
  | _, [], .nil => rfl
  | _, n :: r, .cons h t => by rw [dp_int h, ints_of t]; rfl
theorem strs_of {H : Hp} : ∀ {vs : List V} {ns : List Str}, DpAll K H vs (ns.map PyData.str) → vs = ns.map V.str
  | _, [], .nil => rfl
  | _, n :: r, .cons h t => by rw [dp_str h, strs_of t]; rfl
theorem bls_of {H : Hp} : ∀ {vs : List V} {ns : List Bool}, DpAll K H vs (ns.map PyData.bool) → vs = ns.map V.bl
  | _, [], .nil => rfl
  | _, n :: r, .cons h t => by rw [dp_bool h, bls_of t]; rfl

def ObAt (K : PySem.W.Frag) (I : Hp) : HO → Ob → Prop
  | .lst vs, .lst ds => DpAll K I vs ds
  | .dK kvs, .dct es => kvs.map (·.1) = es.map (·.1) ∧ DpAll K I (kvs.map (·.2)) (es.map (·.2))
  | .dT kvs, .dtt es => kvs.map (·.1) = es.map (·.1) ∧ DpAll K I (kvs.map (·.2)) (es.map (·.2))
  | _, _ => False
theorem obAt_mono {I I' : Hp} (e : Same I I') : ∀ {o : HO} {b : Ob}, ObAt K I o b → ObAt K I' o b := by
  intro o b h
  cases o <;> cases b <;> first
    | exact dpAll_mono e h
    | exact ⟨h.1, dpAll_mono e h.2⟩
    | exact h
theorem obAt_lst {I : Hp} {o : HO} {ds : List PyData} (h : ObAt K I o (.lst ds)) : ∃ vs, o = .lst vs ∧ DpAll K I vs ds := by
  cases o <;> first | exact ⟨_, rfl, h⟩ | exact h.elim

/-- from (I, H) to (I', H'): nothing that stood has changed, and what is new in I' was new -/
structure Grow (I H I' H' : Hp) : Prop where
  ii : Same I I'
  hh : Same H H'
  ih : Same I' H'
  nw : ∀ q o, H q = some o → I q = none → I' q = none
theorem Grow.refl {I H : Hp} (e : Same I H) : Grow I H I H := ⟨Same.refl _, Same.refl _, e, fun _ _ _ h => h⟩
theorem Grow.trans {I H I1 H1 I2 H2 : Hp} (a : Grow I H I1 H1) (b : Grow I1 H1 I2 H2) : Grow I H I2 H2 :=
  ⟨a.ii.trans b.ii, a.hh.trans b.hh, b.ih, fun q o h n => b.nw q o (a.hh q o h) (a.nw q o h n)⟩
theorem Grow.ih0 {I H I' H' : Hp} (e : Same I H) (a : Grow I H I' H') : Same I H' := fun b o h => a.hh b o (e b o h)
/-- a new object, known to both -/
theorem Grow.new {I H : Hp} {p : Addr} {o : HO} (e : Same I H) (n : H p = none) : Grow I H (upd I p o) (upd H p o) where
  ii := fun b u h => by rw [upd_ne (ne_of_none h (e.free n))]; exact h
  hh := fun b u h => by rw [upd_ne (ne_of_none h n)]; exact h
  ih := fun b u h => by
    by_cases hb : b = p
    · subst hb; rw [upd_same] at h ⊢; exact h
    · rw [upd_ne hb] at h ⊢; exact e b u h
  nw := fun q u h n' => by rw [upd_ne (ne_of_none h n)]; exact n'
/-- a new object, known to the heap alone -/
theorem Grow.newH {I H : Hp} {p : Addr} {o : HO} (e : Same I H) (n : H p = none) : Grow I H I (upd H p o) where
  ii := Same.refl _
  hh := fun b u h => by rw [upd_ne (ne_of_none h n)]; exact h
  ih := fun b u h => by rw [upd_ne (ne_of_none (e b u h) n)]; exact e b u h
  nw := fun _ _ _ h => h
/-- an object that is new since, becomes known -/
theorem Grow.know {I H I' H' : Hp} {p : Addr} {o : HO} (g : Grow I H I' H') (n : H p = none) (n' : I' p = none) (h' : H' p = some o) : Grow I H (upd I' p o) H' where
  ii := fun b u h => by
    have h1 := g.ii b u h
    rw [upd_ne (ne_of_none h1 n')]; exact h1
  hh := g.hh
  ih := fun b u h => by
    by_cases hb : b = p
    · subst hb; rw [upd_same] at h; rw [← h]; exact h'
    · rw [upd_ne hb] at h; exact g.ih b u h
  nw := fun q u h m => by rw [upd_ne (ne_of_none h n)]; exact g.nw q u h m
/-- an object that is new since, and not known, changes -/
theorem Grow.mut {I H I' H' : Hp} {p : Addr} {o : HO} (g : Grow I H I' H') (n : H p = none) (n' : I' p = none) : Grow I H I' (upd H' p o) where
  ii := g.ii
  hh := fun b u h => by rw [upd_ne (ne_of_none h n)]; exact g.hh b u h
  ih := fun b u h => by rw [upd_ne (ne_of_none h n')]; exact g.ih b u h
  nw := g.nw

def CellAt (K : PySem.W.Frag) (H0 I H : Hp) (x : Option (Option V)) : C → Prop
  | .un => True
  | .dat d => ∃ v, x = some (some v) ∧ Dp K I v d
  | .own b => ∃ p o, x = some (some (.ref p)) ∧ H0 p = none ∧ I p = none ∧ H p = some o ∧ ObAt K I o b
  | .rf a => x = some (some (.ref a))
  | .tpo _ _ => True
  | .kn a d => x = some (some (.ref a)) ∧ Dp K I (.ref a) d
def isOwn : Option C → Prop
  | some (.own _) => True
  | _ => False
/-- the state A of the names holds -/
structure Rel (K : PySem.W.Frag) (I0 H0 : Hp) (A : List C) (σ : L2.St) (I H : Hp) : Prop where
  gr : Grow I0 H0 I H
  len : σ.length = A.length
  cell : ∀ (i : Nat) (c : C), A[i]? = some c → CellAt K H0 I H σ[i]? c
  apart : ∀ (i j : Nat) (p : Addr), i ≠ j → isOwn A[i]? → isOwn A[j]? → σ[i]? = some (some (.ref p)) → σ[j]? ≠ some (some (.ref p))
theorem Rel.grow {I0 H0 I H I' H' : Hp} {A : List C} {σ : L2.St} (r : Rel K I0 H0 A σ I H) (g : Grow I H I' H') : Rel K I0 H0 A σ I' H' where
  gr := r.gr.trans g
  len := r.len
  cell := fun i c h => by
    have q := r.cell i c h
    cases c with
    | un => trivial
    | dat d => obtain ⟨v, e, hd⟩ := q; exact ⟨v, e, dp_mono g.ii hd⟩
    | own b => obtain ⟨p, o, e, n0, n, ho, hb⟩ := q; exact ⟨p, o, e, n0, g.nw p o ho n, g.hh p o ho, obAt_mono g.ii hb⟩
    | rf a => exact q
    | tpo ds es => trivial
    | kn a d => exact ⟨q.1, dp_mono g.ii q.2⟩
  apart := r.apart
theorem Rel.ih {I0 H0 I H : Hp} {A : List C} {σ : L2.St} (r : Rel K I0 H0 A σ I H) : Same I H := r.gr.ih

/-- a result -/
def VR (K : PySem.W.Frag) (H I' H' : Hp) (v : V) : C → Prop
  | .un => True
  | .dat d => Dp K I' v d
  | .own b => ∃ p o, v = .ref p ∧ H p = none ∧ I' p = none ∧ H' p = some o ∧ ObAt K I' o b
  | .rf a => v = .ref a
  | .kn a d => v = .ref a ∧ Dp K I' v d
  | .tpo ds es => ∃ p q vs us, v = .ref p ∧ H p = none ∧ I' p = none ∧ H' p = some (.tup (vs ++ [.ref q])) ∧ DpAll K I' vs ds ∧ H q = none ∧ I' q = none ∧ H' q = some (.lst us) ∧ DpAll K I' us es
theorem VR.back {H1 H I' H' : Hp} {v : V} {c : C} (e : Same H1 H) (h : VR K H I' H' v c) : VR K H1 I' H' v c := by
  cases c with
  | un => trivial
  | dat d => exact h
  | own b => obtain ⟨p, o, e1, n, r⟩ := h; exact ⟨p, o, e1, e.free n, r⟩
  | rf a => exact h
  | kn a d => exact h
  | tpo ds es => obtain ⟨p, q, vs, us, e1, n1, n2, h1, a1, m1, m2, h2, a2⟩ := h; exact ⟨p, q, vs, us, e1, e.free n1, n2, h1, a1, e.free m1, m2, h2, a2⟩
end

/-! ### judgements -/
section
variable (X : Cx)
def Wx (e : Expr) (σ : L2.St) (H : Hp) (Q : VK) : Prop := ∀ (pins : List (Addr × Obj)) (s : Shared), Inv X pins σ H s → wpAny (model X.prog X.w) X.A (eval e X.env) (EP X pins σ Q) X.xe s
def Wt (e : Expr) (σ : L2.St) (H : Hp) (Q : Bool → Hp → Prop) : Prop := ∀ (pins : List (Addr × Obj)) (s : Shared), Inv X pins σ H s → wpAny (model X.prog X.w) X.A (isTrue e X.env (eval e X.env)) (TP X pins σ Q) X.xe s
def Ww (e : Expr) (σ : L2.St) (H : Hp) (Q : Bool → Hp → Prop) : Prop := ∀ (whole : Sem Value) (pins : List (Addr × Obj)) (s : Shared), Inv X pins σ H s → wpAny (model X.prog X.w) X.A (isTrue e X.env whole) (TP X pins σ Q) X.xe s
def Wa (es : List Expr) (σ : L2.St) (H : Hp) (Q : List V → Hp → Prop) : Prop := ∀ (pos : Pos) (pins : List (Addr × Obj)) (s : Shared), Inv X pins σ H s → wpAny (model X.prog X.w) X.A (spliced (backTo pos (starEach es X.env))) (AP X pins σ Q) X.xe s
def Ws (st : Stmt) (D : Ends) (σ : L2.St) (H : Hp) : Prop := ∀ (pins : List (Addr × Obj)) (s : Shared), Inv X pins σ H s → wpAny (model X.prog X.w) X.A (exec st X.env) (SP X pins D) X.xe s
def Wss (st : List Stmt) (D : Ends) (σ : L2.St) (H : Hp) : Prop := ∀ (pins : List (Addr × Obj)) (s : Shared), Inv X pins σ H s → wpAny (model X.prog X.w) X.A (execs st X.env) (SP X pins D) X.xe s
end
section
variable {X : Cx} {e a b : Expr} {es : List Expr} {t : TE} {σ : L2.St} {H : Hp} {Q : VK} {A : List C} {pos p : Pos}
theorem wx_pe : PE X e (Wx X e) := ⟨fun pins s σ H Q I h => h pins s I⟩
theorem wx_of (h : PE X e t) (q : t σ H Q) : Wx X e σ H Q := fun pins s I => h.run pins s σ H Q I q
theorem wt_pe : PT X e (Wt X e) := ⟨fun pins s σ H Q I h => h pins s I⟩
theorem wt_of {t : TT} {Q : Bool → Hp → Prop} (h : PT X e t) (q : t σ H Q) : Wt X e σ H Q := fun pins s I => h.run pins s σ H Q I q
theorem ww_pw : PW X e (Ww X e) := ⟨fun whole pins s σ H Q I h => h whole pins s I⟩
theorem ww_of {t : TT} {Q : Bool → Hp → Prop} (h : PW X e t) (q : t σ H Q) : Ww X e σ H Q := fun whole pins s I => h.run whole pins s σ H Q I q
theorem wa_pa : PA X es (Wa X es) := ⟨fun pos pins s σ H Q I h => h pos pins s I⟩
theorem wa_of {t : TA} {Q : List V → Hp → Prop} (h : PA X es t) (q : t σ H Q) : Wa X es σ H Q := fun pos pins s I => h.run pos pins s σ H Q I q
theorem ws_ps {st : Stmt} : PS X st (Ws X st) := ⟨fun pins s σ H D I h => h pins s I⟩
theorem ws_of {st : Stmt} {t : TS} {D : Ends} (h : PS X st t) (q : t D σ H) : Ws X st D σ H := fun pins s I => h.run pins s σ H D I q
theorem wss_pss {st : List Stmt} : PSs X st (Wss X st) := ⟨fun pins s σ H D I h => h pins s I⟩
theorem wss_of {st : List Stmt} {t : TS} {D : Ends} (h : PSs X st t) (q : t D σ H) : Wss X st D σ H := fun pins s I => h.run pins s σ H D I q

variable (X)
/-- the expression evaluates to c -/
def Ev (A : List C) (e : Expr) (c : C) : Prop := ∀ I0 H0 σ I H, Rel X.K I0 H0 A σ I H → ∀ Q : VK, (∀ v I' H', Grow I H I' H' → VR X.K H I' H' v c → Q v H') → Wx X e σ H Q
/-- .. to a list (true), a tuple (false), that is read only -/
def EvS (A : List C) (e : Expr) (k : Bool) (ds : List PyData) : Prop := ∀ I0 H0 σ I H, Rel X.K I0 H0 A σ I H → ∀ Q : VK,
  (∀ p vs I' H', Grow I H I' H' → (if k then SqL X.K H' p vs else SqT X.K H' p vs) → DpAll X.K I' vs ds → Q (.ref p) H') → Wx X e σ H Q
def EvA (A : List C) (es : List Expr) (ds : List PyData) : Prop := ∀ I0 H0 σ I H, Rel X.K I0 H0 A σ I H → ∀ Q : List V → Hp → Prop, (∀ vs I' H', Grow I H I' H' → DpAll X.K I' vs ds → Q vs H') → Wa X es σ H Q
def Et (A : List C) (e : Expr) (b : Bool) : Prop := ∀ I0 H0 σ I H, Rel X.K I0 H0 A σ I H → ∀ Q : Bool → Hp → Prop, (∀ I' H', Grow I H I' H' → Q b H') → Wt X e σ H Q
def Ew (A : List C) (e : Expr) (b : Bool) : Prop := ∀ I0 H0 σ I H, Rel X.K I0 H0 A σ I H → ∀ Q : Bool → Hp → Prop, (∀ I' H', Grow I H I' H' → Q b H') → Ww X e σ H Q
variable {X}

theorem ev_int {i : Int} {j} : Ev X A (.Constant (.int i) j pos) (.dat (.int i)) := fun _ _ _ I H r Q q => wx_of pe_int (q _ I H (.refl r.ih) (Dp.int i))
theorem ev_bl {i : Bool} {j} : Ev X A (.Constant (.bool i) j pos) (.dat (.bool i)) := fun _ _ _ I H r Q q => wx_of pe_bl (q _ I H (.refl r.ih) (Dp.bl i))
theorem ev_str {i : Str} {j} : Ev X A (.Constant (.str i) j pos) (.dat (.str i)) := fun _ _ _ I H r Q q => wx_of pe_str (q _ I H (.refl r.ih) (Dp.str i))
theorem ev_non {j} : Ev X A (.Constant .none j pos) (.dat .none) := fun _ _ _ I H r Q q => wx_of pe_non (q _ I H (.refl r.ih) Dp.non)
theorem ev_name (i : Nat) {x : Str} {d : PyData} (hN : X.N[i]? = some x) (hA : A[i]? = some (.dat d)) (hv : Vis X.env.scope x) (hd : (x == ("__debug__" : Str)) = false := by decide)
    (hcd : (x == ("__classdict__" : Str)) = false := by decide) : Ev X A (.Name x pos) (.dat d) := fun _ _ σ I H r Q q => by
  obtain ⟨v, e, hd'⟩ := r.cell i _ hA
  exact wx_of (pe_var hN hv hd hcd) ⟨v, e, q v I H (.refl r.ih) hd'⟩
/-- a fresh list as data -/
theorem ev_frz {ds : List PyData} (h : Ev X A e (.own (.lst ds))) : Ev X A e (.dat (.list ds)) := fun I0 H0 σ I H r Q q =>
  h I0 H0 σ I H r Q fun v I' H' g hv => by
    obtain ⟨p, o, rfl, n, n', h', hb⟩ := hv
    obtain ⟨vs, rfl, ha⟩ := obAt_lst hb
    have g2 := g.know (o := .lst vs) n n' h'
    have s2 : Same I' (upd I' p (.lst vs)) := fun b u z => by rw [upd_ne (ne_of_none z n')]; exact z
    exact q _ _ _ g2 (.lst (.inl (.inl upd_same)) (dpAll_mono s2 ha))
theorem ev_eq {c c' : C} (h : Ev X A e c) (hc : c = c') : Ev X A e c' := hc ▸ h
/-! read lists and tuples -/
theorem evs_own (i : Nat) {x : Str} {ds : List PyData} (hN : X.N[i]? = some x) (hA : A[i]? = some (.own (.lst ds))) (hv : Vis X.env.scope x) (hd : (x == ("__debug__" : Str)) = false := by decide)
    (hcd : (x == ("__classdict__" : Str)) = false := by decide) : EvS X A (.Name x pos) true ds := fun _ _ σ I H r Q q => by
  obtain ⟨p, o, e, _, _, ho, hb⟩ := r.cell i _ hA
  obtain ⟨vs, rfl, ha⟩ := obAt_lst hb
  exact wx_of (pe_var hN hv hd hcd) ⟨.ref p, e, q p vs I H (.refl r.ih) (.inl (.inl ho)) ha⟩
theorem evs_new {ds : List PyData} (h : Ev X A e (.own (.lst ds))) : EvS X A e true ds := fun I0 H0 σ I H r Q q =>
  h I0 H0 σ I H r Q fun v I' H' g hv => by
    obtain ⟨p, o, rfl, _, _, h', hb⟩ := hv
    obtain ⟨vs, rfl, ha⟩ := obAt_lst hb
    exact q p vs I' H' g (.inl (.inl h')) ha
theorem evs_lst {ds : List PyData} (h : Ev X A e (.dat (.list ds))) : EvS X A e true ds := fun I0 H0 σ I H r Q q =>
  h I0 H0 σ I H r Q fun v I' H' g hv => by
    obtain ⟨p, vs, rfl, hs, ha⟩ := dp_lst hv
    exact q p vs I' H' g (same_l g.ih hs) ha
theorem evs_tup {ds : List PyData} (h : Ev X A e (.dat (.tuple ds))) : EvS X A e false ds := fun I0 H0 σ I H r Q q =>
  h I0 H0 σ I H r Q fun v I' H' g hv => by
    obtain ⟨p, vs, rfl, hs, ha⟩ := dp_tup hv
    exact q p vs I' H' g (same_t g.ih hs) ha
/-! arguments -/
theorem ea_nil : EvA X A [] [] := fun _ _ _ I H r Q q => wa_of pa_nil (q [] I H (.refl r.ih) .nil)
theorem ea_cons {d : PyData} {ds : List PyData} (h1 : Ev X A e (.dat d)) (h2 : EvA X A es ds) (hs : starEach (e :: es) X.env = (false, eval e X.env) :: starEach es X.env := by rfl) : EvA X A (e :: es) (d :: ds) := fun I0 H0 σ I H r Q q =>
  wa_of (pa_cons wx_pe wa_pa hs) (h1 I0 H0 σ I H r _ fun v I1 H1 g1 hv => h2 I0 H0 σ I1 H1 (r.grow g1) _ fun vs I2 H2 g2 hvs => q _ I2 H2 (g1.trans g2) (.cons (dp_mono g2.ii hv) hvs))
/-! operators -/
/-- what an operation on two data gives -/
def Bin (X : Cx) (r : R2) (d1 d2 : PyData) (c : C) : Prop := ∀ I H v w, Same I H → Dp X.K I v d1 → Dp X.K I w d2 → ∀ Q : VK, (∀ u I' H', Grow I H I' H' → VR X.K H I' H' u c → Q u H') → r v w H Q
def Una (X : Cx) (r : V → Hp → VK → Prop) (d1 : PyData) (c : C) : Prop := ∀ I H v, Same I H → Dp X.K I v d1 → ∀ Q : VK, (∀ u I' H', Grow I H I' H' → VR X.K H I' H' u c → Q u H') → r v H Q
theorem bin_run {ta tb : Expr} {r : R2} {d1 d2 : PyData} {c : C} (h1 : Ev X A ta (.dat d1)) (h2 : Ev X A tb (.dat d2)) (hr : Bin X r d1 d2 c) {I0 H0 : Hp} {I : Hp} (rl : Rel X.K I0 H0 A σ I H) (q : ∀ v I' H', Grow I H I' H' → VR X.K H I' H' v c → Q v H') :
    tOp r (Wx X ta) (Wx X tb) σ H Q :=
  h1 I0 H0 σ I H rl _ fun v I1 H1 g1 hv => h2 I0 H0 σ I1 H1 (rl.grow g1) _ fun w I2 H2 g2 hw => hr I2 H2 v w g2.ih (dp_mono g2.ii hv) hw Q fun u I3 H3 g3 hu =>
    q u I3 H3 ((g1.trans g2).trans g3) (hu.back (g1.trans g2).hh)
theorem ev_op {op : Operator} {r : R2} {d1 d2 : PyData} {c : C} (ho : OpR X (binaryOp op) r) (h1 : Ev X A a (.dat d1)) (h2 : Ev X A b (.dat d2)) (hr : Bin X r d1 d2 c) : Ev X A (.BinOp a op b pos) c :=
  fun _ _ _ _ _ rl _ q => wx_of (pe_op ho wx_pe wx_pe) (bin_run h1 h2 hr rl q)
theorem ev_cmp {op : CmpOp} {r : R2} {d1 d2 : PyData} {c : C} (ho : OpR X (compareOp op) r) (h1 : Ev X A a (.dat d1)) (h2 : Ev X A b (.dat d2)) (hr : Bin X r d1 d2 c) (hm : behindInMarks op b = false) : Ev X A (.Compare a [op] [b] pos) c :=
  fun _ _ _ _ _ rl _ q => wx_of (pe_cmpR ho wx_pe wx_pe hm) (bin_run h1 h2 hr rl q)
theorem ev_un {op : UnaryOp} {r : V → Hp → VK → Prop} {d1 : PyData} {c : C} (ho : UnR X (unaryOp op) r) (h1 : Ev X A a (.dat d1)) (hr : Una X r d1 c) : Ev X A (.UnaryOp op a pos) c :=
  fun I0 H0 σ I H rl Q q => wx_of (pe_un ho wx_pe) (h1 I0 H0 σ I H rl _ fun v I1 H1 g1 hv => hr I1 H1 v g1.ih hv Q fun u I2 H2 g2 hu => q u I2 H2 (g1.trans g2) (hu.back g1.hh))
theorem ev_ix {r : R2} {d1 d2 : PyData} {c : C} (ho : IxR X r) (h1 : Ev X A a (.dat d1)) (h2 : Ev X A b (.dat d2)) (hr : Bin X r d1 d2 c) (hs : PlainIx b) : Ev X A (.Subscript a b pos) c :=
  fun _ _ _ _ _ rl _ q => wx_of (pe_ix ho wx_pe wx_pe hs) (bin_run h1 h2 hr rl q)
/-- the results that are plain -/
theorem bin_val {r : R2} {d1 d2 d : PyData} (h : ∀ I H v w, Same I H → Dp X.K I v d1 → Dp X.K I w d2 → ∀ Q : VK, (∀ u, Dp X.K I u d → Q u H) → r v w H Q) : Bin X r d1 d2 (.dat d) :=
  fun I H v w s h1 h2 Q q => h I H v w s h1 h2 Q fun u hu => q u I H (.refl s) hu
theorem bI0 {g : Int → Int → V} {i j : Int} {d : PyData} (hg : ∀ I, Dp X.K I (g i j) d) : Bin X (rI0 g) (.int i) (.int j) (.dat d) := bin_val fun I H v w s h1 h2 Q q => ⟨i, j, dp_int h1, dp_int h2, q _ (hg I)⟩
theorem bI {R : Int → Int → Prop} {g : Int → Int → V} {i j : Int} {d : PyData} (hc : R i j) (hg : ∀ I, Dp X.K I (g i j) d) : Bin X (rI R g) (.int i) (.int j) (.dat d) := bin_val fun I H v w s h1 h2 Q q => ⟨i, j, dp_int h1, dp_int h2, hc, q _ (hg I)⟩
theorem ev_add {i j : Int} (h1 : Ev X A a (.dat (.int i))) (h2 : Ev X A b (.dat (.int j))) : Ev X A (.BinOp a .Add b pos) (.dat (.int (i + j))) := ev_op op_add h1 h2 (bI0 fun _ => .int _)
theorem ev_sub {i j : Int} (h1 : Ev X A a (.dat (.int i))) (h2 : Ev X A b (.dat (.int j))) : Ev X A (.BinOp a .Sub b pos) (.dat (.int (i - j))) := ev_op op_sub h1 h2 (bI0 fun _ => .int _)
theorem ev_mul {i j : Int} (h1 : Ev X A a (.dat (.int i))) (h2 : Ev X A b (.dat (.int j))) (hc : CMul i j) : Ev X A (.BinOp a .Mult b pos) (.dat (.int (i * j))) := ev_op op_mul h1 h2 (bI hc fun _ => .int _)
theorem ev_mod {i j : Int} (h1 : Ev X A a (.dat (.int i))) (h2 : Ev X A b (.dat (.int j))) (hc : 0 < j) : Ev X A (.BinOp a .Mod b pos) (.dat (.int (i % j))) := ev_op op_modN h1 h2 (bI (Int.ne_of_gt hc) fun _ => by
  rw [Int.fmod_eq_emod_of_nonneg _ (Int.le_of_lt hc)]; exact .int _)
theorem ev_div {i j : Int} (h1 : Ev X A a (.dat (.int i))) (h2 : Ev X A b (.dat (.int j))) (hc : 0 < j) (hb : j < 1073741824) : Ev X A (.BinOp a .FloorDiv b pos) (.dat (.int (i / j))) := ev_op op_fdivN h1 h2 (bI ⟨Int.ne_of_gt hc, by omega⟩ fun _ => by
  rw [Int.fdiv_eq_ediv_of_nonneg _ (Int.le_of_lt hc)]; exact .int _)
theorem ev_pow {i j : Int} (h1 : Ev X A a (.dat (.int i))) (h2 : Ev X A b (.dat (.int j))) (hc : CPow i j) : Ev X A (.BinOp a .Pow b pos) (.dat (.int (i ^ j.toNat))) := ev_op op_pow h1 h2 (bI hc fun _ => .int _)
theorem ev_neg {i : Int} (h1 : Ev X A a (.dat (.int i))) : Ev X A (.UnaryOp .USub a pos) (.dat (.int (-i))) := ev_un un_neg h1 fun I H v s h Q q => ⟨i, dp_int h, q _ I H (.refl s) (Dp.int _)⟩
theorem ev_lt {i j : Int} (h1 : Ev X A a (.dat (.int i))) (h2 : Ev X A b (.dat (.int j))) : Ev X A (.Compare a [.Lt] [b] pos) (.dat (.bool (decide (i < j)))) := ev_cmp op_lt h1 h2 (bI0 fun _ => .bl _) (nomark _)
theorem ev_le {i j : Int} (h1 : Ev X A a (.dat (.int i))) (h2 : Ev X A b (.dat (.int j))) : Ev X A (.Compare a [.LtE] [b] pos) (.dat (.bool (decide (i ≤ j)))) := ev_cmp op_le h1 h2 (bI0 fun _ => .bl _) (nomark _)
theorem ev_gt {i j : Int} (h1 : Ev X A a (.dat (.int i))) (h2 : Ev X A b (.dat (.int j))) : Ev X A (.Compare a [.Gt] [b] pos) (.dat (.bool (decide (j < i)))) := ev_cmp op_gt h1 h2 (bI0 fun _ => .bl _) (nomark _)
theorem ev_ge {i j : Int} (h1 : Ev X A a (.dat (.int i))) (h2 : Ev X A b (.dat (.int j))) : Ev X A (.Compare a [.GtE] [b] pos) (.dat (.bool (decide (j ≤ i)))) := ev_cmp op_ge h1 h2 (bI0 fun _ => .bl _) (nomark _)
theorem decV {i j : Int} : decide (V.int i = V.int j) = decide (i = j) := decide_eq_decide.mpr ⟨V.int.inj, fun h => h ▸ rfl⟩
theorem decS {i j : Str} : decide (V.str i = V.str j) = decide (i = j) := decide_eq_decide.mpr ⟨V.str.inj, fun h => h ▸ rfl⟩
theorem ev_eqI {i j : Int} (h1 : Ev X A a (.dat (.int i))) (h2 : Ev X A b (.dat (.int j))) : Ev X A (.Compare a [.Eq] [b] pos) (.dat (.bool (decide (i = j)))) := ev_cmp op_eq h1 h2 (bin_val fun I H v w s h1 h2 Q q => by
  rw [dp_int h1, dp_int h2]; exact ⟨rfl, by rw [decV]; exact q _ (.bl _)⟩) (nomark _)
theorem ev_neI {i j : Int} (h1 : Ev X A a (.dat (.int i))) (h2 : Ev X A b (.dat (.int j))) : Ev X A (.Compare a [.NotEq] [b] pos) (.dat (.bool (!decide (i = j)))) := ev_cmp op_ne h1 h2 (bin_val fun I H v w s h1 h2 Q q => by
  rw [dp_int h1, dp_int h2]; exact ⟨rfl, by rw [decV]; exact q _ (.bl _)⟩) (nomark _)
theorem ev_eqS {i j : Str} (h1 : Ev X A a (.dat (.str i))) (h2 : Ev X A b (.dat (.str j))) : Ev X A (.Compare a [.Eq] [b] pos) (.dat (.bool (decide (i = j)))) := ev_cmp op_eq h1 h2 (bin_val fun I H v w s h1 h2 Q q => by
  rw [dp_str h1, dp_str h2]; exact ⟨rfl, by rw [decS]; exact q _ (.bl _)⟩) (nomark _)
theorem ev_neS {i j : Str} (h1 : Ev X A a (.dat (.str i))) (h2 : Ev X A b (.dat (.str j))) : Ev X A (.Compare a [.NotEq] [b] pos) (.dat (.bool (!decide (i = j)))) := ev_cmp op_ne h1 h2 (bin_val fun I H v w s h1 h2 Q q => by
  rw [dp_str h1, dp_str h2]; exact ⟨rfl, by rw [decS]; exact q _ (.bl _)⟩) (nomark _)
theorem ev_eqD {d1 d2 : PyData} {k : Nat} (hr : Room k X.A) (h1 : Ev X A a (.dat d1)) (h2 : Ev X A b (.dat d2)) (s1 : SeqAt.shaped d1 = true) (s2 : SeqAt.shaped d2 = true) : Ev X A (.Compare a [.Eq] [b] pos) (.dat (.bool (PyData.eqv d1 d2))) :=
  ev_cmp (op_eqD hr.units) h1 h2 (bin_val fun I H v w s h1 h2 Q q => ⟨d1, d2, (dp_mono s h1).kit, (dp_mono s h2).kit, s1, s2, q _ (.bl _)⟩) (nomark _)
theorem ev_neD {d1 d2 : PyData} {k : Nat} (hr : Room k X.A) (h1 : Ev X A a (.dat d1)) (h2 : Ev X A b (.dat d2)) (s1 : SeqAt.shaped d1 = true) (s2 : SeqAt.shaped d2 = true) : Ev X A (.Compare a [.NotEq] [b] pos) (.dat (.bool (!PyData.eqv d1 d2))) :=
  ev_cmp (op_neD hr.units) h1 h2 (bin_val fun I H v w s h1 h2 Q q => ⟨d1, d2, (dp_mono s h1).kit, (dp_mono s h2).kit, s1, s2, q _ (.bl _)⟩) (nomark _)
theorem ev_isN {d : PyData} (h1 : Ev X A a (.dat d)) : Ev X A (.Compare a [.Is] [.Constant .none j p] pos) (.dat (.bool (match d with | .none => true | _ => false))) :=
  fun I0 H0 σ I H rl Q q => wx_of (pe_cmp (pc_isN wx_pe) rfl) (h1 I0 H0 σ I H rl _ fun v I1 H1 g1 hv => q _ I1 H1 g1 (by
    have hv : Dp X.K I1 v d := hv
    cases hv <;> exact Dp.bl _))
theorem ev_notN {d : PyData} (h1 : Ev X A a (.dat d)) : Ev X A (.Compare a [.IsNot] [.Constant .none j p] pos) (.dat (.bool (match d with | .none => false | _ => true))) :=
  fun I0 H0 σ I H rl Q q => wx_of (pe_cmp (pc_notN wx_pe) rfl) (h1 I0 H0 σ I H rl _ fun v I1 H1 g1 hv => q _ I1 H1 g1 (by
    have hv : Dp X.K I1 v d := hv
    cases hv <;> exact Dp.bl _))
end
end LR

set_option Elab.async false
set_option linter.all false
set_option maxRecDepth 100000
set_option maxHeartbeats 4000000
/-! The layer LR, part b: sequences, calls, tests, comprehensions. -/
namespace LR
open PySem PySem.Spec PyProof.Rows L2

theorem atI_dp {K : PySem.W.Frag} {H : Hp} {vs : List V} {ds : List PyData} (h : DpAll K H vs ds) {i : Int} {d : PyData} (e : atI ds i = some d) : ∃ v, atI vs i = some v ∧ Dp K H v d := by
  unfold atI at e ⊢
  rw [dpAll_len h]
  cases q : ixN ds.length i with
  | none => rw [q] at e; cases e
  | some j => rw [q] at e; exact dpAll_get h (i := j) e
/-- xs[lo:hi] -/
def cut {α : Type} (xs : List α) (lo hi : Option Int) : List α := (xs.drop (HT.sIx xs.length 0 lo)).take (HT.sIx xs.length xs.length hi - HT.sIx xs.length 0 lo)
theorem dpAll_cut {K : PySem.W.Frag} {H : Hp} {vs : List V} {ds : List PyData} (h : DpAll K H vs ds) (lo hi : Option Int) : DpAll K H (cutV vs lo hi) (cut ds lo hi) := by
  unfold cutV cut
  rw [dpAll_len h]
  exact dpAll_take _ (dpAll_drop _ h)
theorem cut_map {α β : Type} (f : α → β) (xs : List α) (lo hi : Option Int) : cut (xs.map f) lo hi = (cut xs lo hi).map f := by
  unfold cut
  rw [List.length_map, List.map_take, List.map_drop]
theorem cut_to {α : Type} (xs : List α) (k : Nat) : cut xs none (some (k : Int)) = xs.take k := by
  unfold cut
  rw [HT.sIx_none, HT.sIx_nat, List.drop_zero, Nat.sub_zero]
  by_cases h : k ≤ xs.length
  · rw [Nat.min_eq_left h]
  · rw [Nat.min_eq_right (by omega), List.take_of_length_le (Nat.le_refl _), List.take_of_length_le (by omega)]
theorem cut_from {α : Type} (xs : List α) (k : Nat) : cut xs (some (k : Int)) none = xs.drop k := by
  unfold cut
  rw [HT.sIx_none, HT.sIx_nat]
  by_cases h : k ≤ xs.length
  · rw [Nat.min_eq_left h, List.take_of_length_le (by rw [List.length_drop]; omega)]
  · rw [Nat.min_eq_right (by omega), List.drop_of_length_le (Nat.le_refl _), List.drop_of_length_le (by omega)]
    simp
theorem cut_mid {α : Type} (xs : List α) (j k : Nat) (hk : k ≤ xs.length) (hj : j ≤ k) : cut xs (some (j : Int)) (some (k : Int)) = (xs.drop j).take (k - j) := by
  unfold cut
  rw [HT.sIx_nat, HT.sIx_nat, Nat.min_eq_left (show j ≤ xs.length by omega), Nat.min_eq_left hk]
theorem cut_len {α : Type} (xs : List α) (lo hi : Option Int) : (cut xs lo hi).length ≤ xs.length := by
  unfold cut
  rw [List.length_take, List.length_drop]
  omega

section
variable {X : Cx} {e a b : Expr} {es : List Expr} {σ : L2.St} {H : Hp} {Q : VK} {A : List C} {pos p p2 : Pos} {x : Str}

theorem sqk {K : PySem.W.Frag} {H : Hp} {p : Addr} {vs : List V} {k : Bool} (h : if k then SqL K H p vs else SqT K H p vs) : SqL K H p vs ∨ SqT K H p vs := by
  cases k with
  | true => exact .inl h
  | false => exact .inr h
/-- an item, i of any sign -/
theorem ev_at {k : Bool} {ds : List PyData} {i : Int} {d : PyData} (h1 : EvS X A a k ds) (h2 : Ev X A b (.dat (.int i))) (hd : atI ds i = some d) (hs : PlainIx b) : Ev X A (.Subscript a b pos) (.dat d) := fun I0 H0 σ I H rl Q q =>
  wx_of (pe_ix (ix_list.or ix_tup) wx_pe wx_pe hs) (h1 I0 H0 σ I H rl _ fun p vs I1 H1 g1 hk ha => h2 I0 H0 σ I1 H1 (rl.grow g1) _ fun w I2 H2 g2 hw => by
    obtain ⟨v, e1, e2⟩ := atI_dp ha hd
    have hw' : Dp X.K I2 w (.int i) := hw
    have fin := q v I2 H2 (g1.trans g2) (dp_mono g2.ii e2)
    cases k with
    | true => exact .inl ⟨p, vs, i, v, rfl, dp_int hw', same_l g2.hh hk, e1, fin⟩
    | false => exact .inr ⟨p, vs, i, v, rfl, dp_int hw', same_t g2.hh hk, e1, fin⟩)
theorem ev_atS {z : Str} {i : Int} {c : Nat} (h1 : Ev X A a (.dat (.str z))) (h2 : Ev X A b (.dat (.int i))) (hz : z.length ≤ sizeLine) (hd : atI z.cps.toList i = some c) (hs : PlainIx b) : Ev X A (.Subscript a b pos) (.dat (.str ⟨#[c]⟩)) :=
  ev_ix ix_str h1 h2 (bin_val fun I H v w s h1 h2 Q q => ⟨z, i, c, dp_str h1, dp_int h2, hz, hd, q _ (.str _)⟩) hs
/-! displays -/
theorem ev_tup {ds : List PyData} {x1} (h : EvA X A es ds) (hz : ds.length ≤ sizeLine := by decide) : Ev X A (.Tuple es x1 pos) (.dat (.tuple ds)) := fun I0 H0 σ I H rl Q q =>
  wx_of (pe_tup wa_pa) (h I0 H0 σ I H rl _ fun vs I1 H1 g ha => ⟨by rw [dpAll_len ha]; exact hz, fun p hp => by
    have g2 := Grow.new (o := .tup vs) g.ih hp
    exact q _ _ _ (g.trans g2) (.tup upd_same (dpAll_mono g2.ii ha))⟩)
theorem ev_lst {ds : List PyData} (h : EvA X A es ds) (hz : ds.length ≤ sizeLine := by decide) : Ev X A (.List es pos) (.own (.lst ds)) := fun I0 H0 σ I H rl Q q =>
  wx_of (pe_lst wa_pa) (h I0 H0 σ I H rl _ fun vs I1 H1 g ha => ⟨by rw [dpAll_len ha]; exact hz, fun p hp => by
    have g2 := Grow.newH (o := .lst vs) g.ih hp
    exact q _ _ _ (g.trans g2) ⟨p, .lst vs, rfl, g.hh.free hp, g.ih.free hp, upd_same, ha⟩⟩)
/-! t + u, xs + ys -/
theorem ev_catT {ds es : List PyData} (h1 : Ev X A a (.dat (.tuple ds))) (h2 : Ev X A b (.dat (.tuple es))) (hz : ds.length + es.length ≤ sizeLine) : Ev X A (.BinOp a .Add b pos) (.dat (.tuple (ds ++ es))) :=
  ev_op op_catA h1 h2 fun I H v w s h1 h2 Q q => by
    obtain ⟨p, xs, rfl, hx, ha⟩ := dp_tup h1
    obtain ⟨p2, ys, rfl, hy, hb⟩ := dp_tup h2
    have l1 := dpAll_len ha
    have l2 := dpAll_len hb
    refine ⟨p, p2, xs, ys, rfl, rfl, same_t s hx, same_t s hy, by rw [l1, l2]; exact hz, fun e0 => ?_, fun e0 e1 => ?_, fun e0 e1 l hl => ?_⟩
    · subst e0
      cases ha
      exact q _ I H (.refl s) h2
    · subst e1
      cases hb
      exact q _ I H (.refl s) (by rw [List.append_nil]; exact h1)
    · have g2 := Grow.new (o := .tup (xs ++ ys)) s hl
      exact q _ _ _ g2 (.tup upd_same (dpAll_mono g2.ii (dpAll_append ha hb)))
/-- what may be tracked of a list that is read -/
def EvL (X : Cx) (A : List C) (e : Expr) (ds : List PyData) : Prop := ∀ I0 H0 σ I H, Rel X.K I0 H0 A σ I H → ∀ Q : VK,
  (∀ p vs I' H', Grow I H I' H' → H' p = some (.lst vs) → DpAll X.K I' vs ds → Q (.ref p) H') → Wx X e σ H Q
theorem evl_own (i : Nat) {x : Str} {ds : List PyData} (hN : X.N[i]? = some x) (hA : A[i]? = some (.own (.lst ds))) (hv : Vis X.env.scope x) (hd : (x == ("__debug__" : Str)) = false := by decide)
    (hcd : (x == ("__classdict__" : Str)) = false := by decide) : EvL X A (.Name x pos) ds := fun _ _ σ I H r Q q => by
  obtain ⟨p, o, e, _, _, ho, hb⟩ := r.cell i _ hA
  obtain ⟨vs, rfl, ha⟩ := obAt_lst hb
  exact wx_of (pe_var hN hv hd hcd) ⟨.ref p, e, q p vs I H (.refl r.ih) ho ha⟩
theorem evl_new {ds : List PyData} (h : Ev X A e (.own (.lst ds))) : EvL X A e ds := fun I0 H0 σ I H r Q q =>
  h I0 H0 σ I H r Q fun v I' H' g hv => by
    obtain ⟨p, o, rfl, _, _, h', hb⟩ := hv
    obtain ⟨vs, rfl, ha⟩ := obAt_lst hb
    exact q p vs I' H' g h' ha
theorem ev_catL {ds es : List PyData} (h1 : EvL X A a ds) (h2 : EvL X A b es) (hz : ds.length + es.length ≤ sizeLine) : Ev X A (.BinOp a .Add b pos) (.own (.lst (ds ++ es))) := fun I0 H0 σ I H rl Q q =>
  wx_of (pe_op op_cat wx_pe wx_pe) (h1 I0 H0 σ I H rl _ fun p xs I1 H1 g1 hp ha => h2 I0 H0 σ I1 H1 (rl.grow g1) _ fun p2 ys I2 H2 g2 hp2 hb =>
    ⟨p, p2, xs, ys, rfl, rfl, g2.hh _ _ hp, hp2, by rw [dpAll_len ha, dpAll_len hb]; exact hz, fun l hl => by
      have g3 := Grow.newH (o := .lst (xs ++ ys)) g2.ih hl
      exact q _ _ _ ((g1.trans g2).trans g3) ⟨l, _, rfl, (g1.trans g2).hh.free hl, g2.ih.free hl, upd_same, dpAll_append (dpAll_mono g2.ii ha) hb⟩⟩)
theorem dpAll_rep {K : PySem.W.Frag} {H : Hp} {vs : List V} {ds : List PyData} (h : DpAll K H vs ds) : ∀ n : Nat, DpAll K H (List.replicate n vs).flatten (List.replicate n ds).flatten
  | 0 => .nil
  | n + 1 => by
    rw [List.replicate_succ, List.replicate_succ, List.flatten_cons, List.flatten_cons]
    exact dpAll_append h (dpAll_rep h n)
/-! slices -/
def EvO (X : Cx) (A : List C) (e : Option Expr) (o : Option Int) : Prop := match e, o with
  | none, none => True
  | some e, some i => Ev X A e (.dat (.int i))
  | _, _ => False
theorem evo_none : EvO X A none none := True.intro
theorem evo_some {i : Int} (h : Ev X A e (.dat (.int i))) : EvO X A (some e) (some i) := h
def Wo (X : Cx) (e : Option Expr) (σ : L2.St) (H : Hp) (Q : Option Int → Hp → Prop) : Prop := match e with
  | none => Q none H
  | some e => Wx X e σ H fun x H1 => ∃ i, x = .int i ∧ Q (some i) H1
theorem wo_po {e : Option Expr} : PO X e (Wo X e) := by
  cases e with
  | none => exact po_none
  | some e => exact po_some wx_pe
theorem evo_run {e : Option Expr} {o : Option Int} (h : EvO X A e o) {I0 H0 I : Hp} (rl : Rel X.K I0 H0 A σ I H) {Q : Option Int → Hp → Prop} (q : ∀ I' H', Grow I H I' H' → Q o H') : Wo X e σ H Q := by
  cases e with
  | none => cases o with
    | none => exact q I H (.refl rl.ih)
    | some i => exact h.elim
  | some e => cases o with
    | none => exact h.elim
    | some i => exact h I0 H0 σ I H rl _ fun v I1 H1 g hv => ⟨i, dp_int hv, q I1 H1 g⟩
theorem ev_slL {lo hi : Option Expr} {l u : Option Int} {ds : List PyData} (h : EvS X A e true ds) (hl : EvO X A lo l) (hu : EvO X A hi u) : Ev X A (.Subscript e (.Slice lo hi none p2) pos) (.own (.lst (cut ds l u))) := fun I0 H0 σ I H rl Q q =>
  wx_of (pe_slice sl_list wx_pe wo_po wo_po) (h I0 H0 σ I H rl _ fun p vs I1 H1 g1 hk ha => evo_run hl (rl.grow g1) fun I2 H2 g2 => evo_run hu ((rl.grow g1).grow g2) fun I3 H3 g3 =>
    ⟨p, vs, rfl, same_l (g2.trans g3).hh hk, fun r hr => by
      have g := (g1.trans g2).trans g3
      have g4 := Grow.newH (o := .lst (cutV vs l u)) g3.ih hr
      exact q _ _ _ (g.trans g4) ⟨r, _, rfl, g.hh.free hr, g3.ih.free hr, upd_same, dpAll_mono (g2.trans g3).ii (dpAll_cut ha l u)⟩⟩)
theorem ev_slT {lo hi : Option Expr} {l u : Option Int} {ds : List PyData} (h : Ev X A e (.dat (.tuple ds))) (hl : EvO X A lo l) (hu : EvO X A hi u) : Ev X A (.Subscript e (.Slice lo hi none p2) pos) (.dat (.tuple (cut ds l u))) := fun I0 H0 σ I H rl Q q =>
  wx_of (pe_slice sl_tupA wx_pe wo_po wo_po) (h I0 H0 σ I H rl _ fun v I1 H1 g1 hv => evo_run hl (rl.grow g1) fun I2 H2 g2 => evo_run hu ((rl.grow g1).grow g2) fun I3 H3 g3 => by
    have hv := dp_mono (g2.trans g3).ii (show Dp X.K I1 v (.tuple ds) from hv)
    obtain ⟨p, vs, rfl, hk, ha⟩ := dp_tup hv
    have g := (g1.trans g2).trans g3
    refine ⟨p, vs, rfl, same_t g3.ih hk, fun ⟨e1, e2⟩ => ?_, fun _ r hr => ?_⟩
    · refine q _ _ _ g ?_
      have e3 : cut ds l u = ds := by
        unfold cut
        rw [← dpAll_len ha, e1, e2, List.drop_zero, Nat.sub_zero, dpAll_len ha, List.take_length]
      rw [e3]
      exact hv
    · have g4 := Grow.new (o := .tup (cutV vs l u)) g3.ih hr
      exact q _ _ _ (g.trans g4) (.tup upd_same (dpAll_mono g4.ii (dpAll_cut ha l u))))
/-! built-ins -/
theorem ev_len {k : Bool} {ds : List PyData} (hg : Gl X "len") (hm : X.mg "len" = none) (h : EvS X A e k ds) (hs : starEach (e :: []) X.env = (false, eval e X.env) :: starEach [] X.env := by rfl) : Ev X A (.Call (.Name "len" p) [e] [] pos) (.dat (.int ds.length)) := fun I0 H0 σ I H rl Q q =>
  wx_of (pe_callB call_len_seq hg hm PySem.boot_len (pa_cons wx_pe pa_nil hs) (by decide) (by decide) hs rfl) (h I0 H0 σ I H rl _ fun p vs I1 H1 g hk ha => ⟨p, vs, rfl, sqk hk, q _ I1 H1 g (by rw [← dpAll_len ha]; exact Dp.int _)⟩)
theorem ev_lenS {z : Str} (hg : Gl X "len") (hm : X.mg "len" = none) (h : Ev X A e (.dat (.str z))) (hz : z.length ≤ sizeLine) (hs : starEach (e :: []) X.env = (false, eval e X.env) :: starEach [] X.env := by rfl) : Ev X A (.Call (.Name "len" p) [e] [] pos) (.dat (.int z.length)) := fun I0 H0 σ I H rl Q q =>
  wx_of (pe_callB call_len_str hg hm PySem.boot_len (pa_cons wx_pe pa_nil hs) (by decide) (by decide) hs rfl) (h I0 H0 σ I H rl _ fun v I1 H1 g hv => ⟨z, by rw [dp_str hv], hz, q _ I1 H1 g (Dp.int _)⟩)
theorem ev_tuple {ds : List PyData} (hg : Gl X "tuple") (hm : X.mg "tuple" = none) (h : EvS X A e true ds) (hb : bootBuiltins "tuple" = some (.type "tuple") := by decide +kernel) (hs : starEach (e :: []) X.env = (false, eval e X.env) :: starEach [] X.env := by rfl) : Ev X A (.Call (.Name "tuple" p) [e] [] pos) (.dat (.tuple ds)) := fun I0 H0 σ I H rl Q q =>
  wx_of (pe_callTy call_tuple_of hg hm hb (pa_cons wx_pe pa_nil hs) (by decide) (by decide) hs rfl) (h I0 H0 σ I H rl _ fun p vs I1 H1 g hk ha => ⟨p, vs, rfl, .inl ⟨hk, fun l hl => by
    have g2 := Grow.new (o := .tup vs) g.ih hl
    exact q _ _ _ (g.trans g2) (.tup upd_same (dpAll_mono g2.ii ha))⟩⟩)
theorem ev_tupleT {ds : List PyData} (hg : Gl X "tuple") (hm : X.mg "tuple" = none) (h : Ev X A e (.dat (.tuple ds))) (hb : bootBuiltins "tuple" = some (.type "tuple") := by decide +kernel) (hs : starEach (e :: []) X.env = (false, eval e X.env) :: starEach [] X.env := by rfl) : Ev X A (.Call (.Name "tuple" p) [e] [] pos) (.dat (.tuple ds)) := fun I0 H0 σ I H rl Q q =>
  wx_of (pe_callTy call_tuple_of hg hm hb (pa_cons wx_pe pa_nil hs) (by decide) (by decide) hs rfl) (h I0 H0 σ I H rl _ fun v I1 H1 g hv => by
    have hv : Dp X.K I1 v (.tuple ds) := hv
    obtain ⟨p, vs, rfl, hk, ha⟩ := dp_tup hv
    exact ⟨p, vs, rfl, .inr ⟨same_t g.ih hk, q _ I1 H1 g hv⟩⟩)
theorem ev_list {k : Bool} {ds : List PyData} (hg : Gl X "list") (hm : X.mg "list" = none) (h : EvS X A e k ds) (hb : bootBuiltins "list" = some (.type "list") := by decide +kernel) (hs : starEach (e :: []) X.env = (false, eval e X.env) :: starEach [] X.env := by rfl) : Ev X A (.Call (.Name "list" p) [e] [] pos) (.own (.lst ds)) := fun I0 H0 σ I H rl Q q =>
  wx_of (pe_callTy call_list_of hg hm hb (pa_cons wx_pe pa_nil hs) (by decide) (by decide) hs rfl) (h I0 H0 σ I H rl _ fun p vs I1 H1 g hk ha => ⟨p, vs, rfl, sqk hk, fun l hl => by
    have g2 := Grow.newH (o := .lst vs) g.ih hl
    exact q _ _ _ (g.trans g2) ⟨l, _, rfl, g.hh.free hl, g.ih.free hl, upd_same, ha⟩⟩)
theorem ev_intB {k : Bool} (hg : Gl X "int") (hm : X.mg "int" = none) (h : Ev X A e (.dat (.bool k))) (hb : bootBuiltins "int" = some (.type "int") := by decide +kernel) (hs : starEach (e :: []) X.env = (false, eval e X.env) :: starEach [] X.env := by rfl) : Ev X A (.Call (.Name "int" p) [e] [] pos) (.dat (.int (if k then 1 else 0))) := fun I0 H0 σ I H rl Q q =>
  wx_of (pe_callTy call_int1 hg hm hb (pa_cons wx_pe pa_nil hs) (by decide) (by decide) hs rfl) (h I0 H0 σ I H rl _ fun v I1 H1 g hv => .inr ⟨k, by rw [dp_bool hv], q _ I1 H1 g (Dp.int _)⟩)
theorem ev_strI {i : Int} (hg : Gl X "str") (hm : X.mg "str" = none) (h : Ev X A e (.dat (.int i))) (hz : i.natAbs.log2 < 1920) (hb : bootBuiltins "str" = some (.type "str") := by decide +kernel) (hs : starEach (e :: []) X.env = (false, eval e X.env) :: starEach [] X.env := by rfl) : Ev X A (.Call (.Name "str" p) [e] [] pos) (.dat (.str (toString i))) := fun I0 H0 σ I H rl Q q =>
  wx_of (pe_callTy call_str_int hg hm hb (pa_cons wx_pe pa_nil hs) (by decide) (by decide) hs rfl) (h I0 H0 σ I H rl _ fun v I1 H1 g hv => ⟨i, by rw [dp_int hv], hz, q _ I1 H1 g (Dp.str _)⟩)
theorem ev_max2 {i j : Int} {e2 : Expr} (hc : X.calm = true) (hg : Gl X "max") (hm : X.mg "max" = none) (h : EvA X A [e, e2] [.int i, .int j]) (hb : bootBuiltins "max" = some (.builtin "max") := by decide +kernel)
    (hs : starEach (e :: [e2]) X.env = (false, eval e X.env) :: starEach [e2] X.env := by rfl) (hpl : (backTo pos (starEach [e2] X.env)).any (·.1) = false := by rfl) : Ev X A (.Call (.Name "max" p) [e, e2] [] pos) (.dat (.int (max i j))) := fun I0 H0 σ I H rl Q q =>
  wx_of (pe_callB (call_max2 hc) hg hm hb wa_pa (by decide) (by decide) hs hpl) (h I0 H0 σ I H rl _ fun vs I1 H1 g hv => by
    cases hv with
    | cons h1 h2 => cases h2 with
      | cons h2 h3 =>
        cases h3
        exact ⟨i, j, by rw [dp_int h1, dp_int h2], q _ I1 H1 g (by
          have e1 : (if j > i then j else i) = max i j := by omega
          rw [e1]; exact Dp.int _)⟩)
theorem ev_min2 {i j : Int} {e2 : Expr} (hc : X.calm = true) (hg : Gl X "min") (hm : X.mg "min" = none) (h : EvA X A [e, e2] [.int i, .int j]) (hb : bootBuiltins "min" = some (.builtin "min") := by decide +kernel)
    (hs : starEach (e :: [e2]) X.env = (false, eval e X.env) :: starEach [e2] X.env := by rfl) (hpl : (backTo pos (starEach [e2] X.env)).any (·.1) = false := by rfl) : Ev X A (.Call (.Name "min" p) [e, e2] [] pos) (.dat (.int (min i j))) := fun I0 H0 σ I H rl Q q =>
  wx_of (pe_callB (call_min2 hc) hg hm hb wa_pa (by decide) (by decide) hs hpl) (h I0 H0 σ I H rl _ fun vs I1 H1 g hv => by
    cases hv with
    | cons h1 h2 => cases h2 with
      | cons h2 h3 =>
        cases h3
        exact ⟨i, j, by rw [dp_int h1, dp_int h2], q _ I1 H1 g (by
          have e1 : (if j < i then j else i) = min i j := by omega
          rw [e1]; exact Dp.int _)⟩)
theorem ev_sum {ns : List Int} (hc : X.calm = true) (hg : Gl X "sum") (hm : X.mg "sum" = none) (h : EvS X A e true (ns.map PyData.int)) (hb : bootBuiltins "sum" = some (.builtin "sum") := by decide +kernel) (hs : starEach (e :: []) X.env = (false, eval e X.env) :: starEach [] X.env := by rfl) : Ev X A (.Call (.Name "sum" p) [e] [] pos) (.dat (.int ns.sum)) := fun I0 H0 σ I H rl Q q =>
  wx_of (pe_callB (cr_sum hc) hg hm hb (pa_cons wx_pe pa_nil hs) (by decide) (by decide) hs rfl) (h I0 H0 σ I H rl _ fun p vs I1 H1 g hk ha => ⟨p, ns, rfl, by rw [← ints_of ha]; exact hk, q _ I1 H1 g (Dp.int _)⟩)
theorem ev_any {bs : List Bool} (hc : X.calm = true) (hg : Gl X "any") (hm : X.mg "any" = none) (h : EvS X A e true (bs.map PyData.bool)) (hb : bootBuiltins "any" = some (.builtin "any") := by decide +kernel) (hs : starEach (e :: []) X.env = (false, eval e X.env) :: starEach [] X.env := by rfl) : Ev X A (.Call (.Name "any" p) [e] [] pos) (.dat (.bool (bs.any id))) := fun I0 H0 σ I H rl Q q =>
  wx_of (pe_callB (cr_any hc) hg hm hb (pa_cons wx_pe pa_nil hs) (by decide) (by decide) hs rfl) (h I0 H0 σ I H rl _ fun p vs I1 H1 g hk ha => ⟨p, bs, rfl, by rw [← bls_of ha]; exact hk, q _ I1 H1 g (Dp.bl _)⟩)
theorem ev_all {bs : List Bool} (hc : X.calm = true) (hg : Gl X "all") (hm : X.mg "all" = none) (h : EvS X A e true (bs.map PyData.bool)) (hb : bootBuiltins "all" = some (.builtin "all") := by decide +kernel) (hs : starEach (e :: []) X.env = (false, eval e X.env) :: starEach [] X.env := by rfl) : Ev X A (.Call (.Name "all" p) [e] [] pos) (.dat (.bool (bs.all id))) := fun I0 H0 σ I H rl Q q =>
  wx_of (pe_callB (cr_all hc) hg hm hb (pa_cons wx_pe pa_nil hs) (by decide) (by decide) hs rfl) (h I0 H0 σ I H rl _ fun p vs I1 H1 g hk ha => ⟨p, bs, rfl, by rw [← bls_of ha]; exact hk, q _ I1 H1 g (Dp.bl _)⟩)
theorem ev_maxL {ns : List Int} {m : Int} (hc : X.calm = true) (hg : Gl X "max") (hm : X.mg "max" = none) (h : EvS X A e true (ns.map PyData.int)) (h1 : m ∈ ns) (h2 : ∀ y ∈ ns, y ≤ m) (hb : bootBuiltins "max" = some (.builtin "max") := by decide +kernel) (hs : starEach (e :: []) X.env = (false, eval e X.env) :: starEach [] X.env := by rfl) : Ev X A (.Call (.Name "max" p) [e] [] pos) (.dat (.int m)) := fun I0 H0 σ I H rl Q q =>
  wx_of (pe_callB (cr_max hc) hg hm hb (pa_cons wx_pe pa_nil hs) (by decide) (by decide) hs rfl) (h I0 H0 σ I H rl _ fun p vs I1 H1 g hk ha => ⟨p, ns, rfl, by rw [← ints_of ha]; exact hk, List.length_pos_of_mem h1, fun m' h3 h4 => by
    have e1 := h4 m h1
    have e2 := h2 m' h3
    have e3 : m' = m := by omega
    rw [e3]
    exact q _ I1 H1 g (Dp.int _)⟩)
theorem ev_minL {ns : List Int} {m : Int} (hc : X.calm = true) (hg : Gl X "min") (hm : X.mg "min" = none) (h : EvS X A e true (ns.map PyData.int)) (h1 : m ∈ ns) (h2 : ∀ y ∈ ns, m ≤ y) (hb : bootBuiltins "min" = some (.builtin "min") := by decide +kernel) (hs : starEach (e :: []) X.env = (false, eval e X.env) :: starEach [] X.env := by rfl) : Ev X A (.Call (.Name "min" p) [e] [] pos) (.dat (.int m)) := fun I0 H0 σ I H rl Q q =>
  wx_of (pe_callB (cr_min hc) hg hm hb (pa_cons wx_pe pa_nil hs) (by decide) (by decide) hs rfl) (h I0 H0 σ I H rl _ fun p vs I1 H1 g hk ha => ⟨p, ns, rfl, by rw [← ints_of ha]; exact hk, List.length_pos_of_mem h1, fun m' h3 h4 => by
    have e1 := h4 m h1
    have e2 := h2 m' h3
    have e3 : m' = m := by omega
    rw [e3]
    exact q _ I1 H1 g (Dp.int _)⟩)
/-! isinstance of data -/
def tyD : PyData → String
  | .none => "NoneType" | .bool _ => "bool" | .int _ => "int" | .str _ => "str" | .list _ => "list" | .tuple _ => "tuple" | .dict _ => "dict"
theorem tyX_of {K : PySem.W.Frag} {H : Hp} {v : V} {d : PyData} (h : Dp K H v d) : TyX K H v (.type (tyD d)) := by
  cases h with
  | non => exact .base .non
  | bl b => exact .base (.bl b)
  | int i => exact .base (.int i)
  | str x => exact .base (.str x)
  | lst hs ha =>
    rcases hs with (h | ⟨o, h⟩) | ⟨o, its, n, h, c, _⟩
    · exact .base (.lst h)
    · exact .base (.frz h)
    · exact .kList h c
  | tup h ha => exact .base (.tup h)
/-- isinstance(x, T), T a built-in class -/
theorem ev_isi {T : String} {d : PyData} {r : Bool} {t : Expr} (hg : Gl X "isinstance") (hm : X.mg "isinstance" = none) (h1 : Ev X A e (.dat d)) (hT : t = .Name (Str.ofString T) p2) (hgT : Gl X (Str.ofString T)) (hmT : X.mg (Str.ofString T) = none)
    (hbT : bootBuiltins (Str.ofString T) = some (.type T)) (hk : kitB (tyD d) T = some r) (hn : Str.ofString T ≠ "__name__" := by decide) (hb : bootBuiltins "isinstance" = some (.builtin "isinstance") := by decide +kernel)
    (hs : starEach (e :: [t]) X.env = (false, eval e X.env) :: starEach [t] X.env := by rfl) (hs2 : starEach [t] X.env = (false, eval t X.env) :: starEach [] X.env := by rfl) (hpl : (backTo pos (starEach [t] X.env)).any (·.1) = false := by rfl) (hdb : (Str.ofString T == ("__debug__" : Str)) = false := by decide) :
    Ev X A (.Call (.Name "isinstance" p) [e, t] [] pos) (.dat (.bool r)) := fun I0 H0 σ I H rl Q q => by
  subst hT
  exact wx_of (pe_callB call_isi hg hm hb (pa_cons wx_pe (pa_cons (pe_bltn (v := .ty T) hgT hmT hbT rfl hn hdb) pa_nil hs2) hs) (by decide) (by decide) hs hpl) (h1 I0 H0 σ I H rl _ fun v I1 H1 g hv => ⟨v, .ty T, .type (tyD d), .type T, r, rfl, .ty T, tyX_of (dp_mono g.ih hv), kit_ty hk, q _ I1 H1 g (Dp.bl _)⟩)
end
end LR

set_option Elab.async false
set_option linter.all false
set_option maxRecDepth 100000
set_option maxHeartbeats 4000000
/-! The layer LR, part c: calls of defs, tests, statements, loops, the rule of a def. -/
namespace LR
open PySem PySem.Spec PyProof.Rows L2

inductive Res where
  | ok (c : C)
  | ex (x : Str)
/-- a promise by data: R of the arguments and the result -/
def Spec (K : PySem.W.Frag) (mg : Str → Option Value) (R : List PyData → Res → Prop) : Sp := fun vs H Q E => ∃ I ds r, Same I H ∧ DpAll K I vs ds ∧ R ds r ∧ match r with
  | .ok c => ∀ v I' H', Grow I H I' H' → VR K H I' H' v c → Q v H'
  | .ex x => ∀ I' H', Grow I H I' H' → ∀ c, mg x = some (.ref c) → E (.ref c) none H'
/-- a def of the text, as callers need it -/
structure Fn (P : Program) (w : World) (K : PySem.W.Frag) (mg : Str → Option Value) (base : Heap) (k : Nat) (x : Str) (ps : List Str) (R : List PyData → Res → Prop) : Prop where
  ex : ∃ f fd, FnOk P w K mg base (L2.CX P w) k f fd ps (Spec K mg R) ∧ mg x = some (.ref f) ∧ PySem.W.keepIn K (.ref f) = true ∧ Binds K fd ps [] ∧ ∃ (oc : Value) (od : Option Addr) (osl : Array (Option Value)), K.lookup f = some ⟨oc, od, .func fd, osl⟩
/-- the def behind it, told by its object -/
theorem Fn.withFd {P : Program} {w : World} {K : PySem.W.Frag} {mg : Str → Option Value} {base : Heap} {k : Nat} {x : Str} {ps : List Str} {R : List PyData → Res → Prop} (F : Fn P w K mg base k x ps R) {f : Addr} {fd : FuncData} {oc : Value} {od : Option Addr} {osl : Array (Option Value)}
    (hm : mg x = some (.ref f)) (hl : K.lookup f = some ⟨oc, od, .func fd, osl⟩) : ∃ f fd', FnOk P w K mg base (L2.CX P w) k f fd' ps (Spec K mg R) ∧ mg x = some (.ref f) ∧ fd' = fd := by
  obtain ⟨f', fd', F', hm', _, _, oc', od', osl', hl'⟩ := F.ex
  have e := hm.symm.trans hm'
  cases e
  have e2 := hl.symm.trans hl'
  cases e2
  exact ⟨f, fd, F', hm, rfl⟩
theorem Fn.imp {P : Program} {w : World} {K : PySem.W.Frag} {mg : Str → Option Value} {base : Heap} {k : Nat} {x : Str} {ps : List Str} {R R' : List PyData → Res → Prop} (F : Fn P w K mg base k x ps R) (h : ∀ ds r, R' ds r → R ds r) : Fn P w K mg base k x ps R' := by
  obtain ⟨f, fd, F, a, b, c⟩ := F.ex
  exact ⟨f, fd, F.imp fun vs H Q E ⟨I, ds, r, s, hd, hr, q⟩ => ⟨I, ds, r, s, hd, h ds r hr, q⟩, a, b, c⟩
theorem Fn.mono {P : Program} {w : World} {K : PySem.W.Frag} {mg : Str → Option Value} {base : Heap} {j k : Nat} {x : Str} {ps : List Str} {R : List PyData → Res → Prop} (F : Fn P w K mg base j x ps R) (h : j ≤ k) : Fn P w K mg base k x ps R := by
  obtain ⟨f, fd, F, a, b, c⟩ := F.ex
  exact ⟨f, fd, F.mono h, a, b, c⟩

section
variable {X : Cx} {e a b : Expr} {es : List Expr} {σ : L2.St} {H : Hp} {Q : VK} {A : List C} {pos p p2 : Pos} {x : Str}

theorem ev_call {k : Nat} {ps : List Str} {R : List PyData → Res → Prop} {ds : List PyData} {c : C} (G : Fn X.prog X.w X.K X.mg X.base k x ps R) (hr : Room k X.A) (hg : Gl X x) (ha : EvA X A (e :: es) ds) (h : R ds (.ok c)) (hdb : (x == ("__debug__" : Str)) = false := by decide)
    (he : starEach (e :: es) X.env = (false, eval e X.env) :: starEach es X.env := by rfl) (hpl : (backTo pos (starEach es X.env)).any (·.1) = false := by rfl) : Ev X A (.Call (.Name x p) (e :: es) [] pos) c := fun I0 H0 σ I H rl Q q => by
  obtain ⟨f, fd, F, hm, hk, hb, _⟩ := G.ex
  exact wx_of (pe_call F hr hg hm hk hb .nil passL wa_pa hdb he hpl) (ha I0 H0 σ I H rl _ fun vs I1 H1 g hv => ⟨I1, ds, .ok c, g.ih, by rw [List.append_nil]; exact hv, h, fun v I2 H2 g2 hv2 => q v I2 H2 (g.trans g2) (hv2.back g.hh)⟩)
/-- the expression raises x -/
def EvX (X : Cx) (A : List C) (e : Expr) (x : Str) : Prop := ∀ I0 H0 σ I H, Rel X.K I0 H0 A σ I H → ∀ W : WX, Takes X W → (∀ I' H', Grow I H I' H' → ∀ c, X.mg x = some (.ref c) → W (.ref c) none σ H') → ∀ Q : VK, Wx X e σ H Q
theorem evx_call {k : Nat} {ps : List Str} {R : List PyData → Res → Prop} {ds : List PyData} {y : Str} (G : Fn X.prog X.w X.K X.mg X.base k x ps R) (hr : Room k X.A) (hg : Gl X x) (ha : EvA X A (e :: es) ds) (h : R ds (.ex y)) (hdb : (x == ("__debug__" : Str)) = false := by decide)
    (he : starEach (e :: es) X.env = (false, eval e X.env) :: starEach es X.env := by rfl) (hpl : (backTo pos (starEach es X.env)).any (·.1) = false := by rfl) : EvX X A (.Call (.Name x p) (e :: es) [] pos) y := fun I0 H0 σ I H rl W tk q Q => by
  obtain ⟨f, fd, F, hm, hk, hb, _⟩ := G.ex
  exact wx_of (pe_callS F hr hg hm hk hb (fun σ => passAt tk σ) wa_pa hdb he hpl) (ha I0 H0 σ I H rl _ fun vs I1 H1 g hv => ⟨I1, ds, .ex y, g.ih, hv, h, fun I2 H2 g2 c hc => q I2 H2 (g.trans g2) c hc⟩)
/-! tests -/
theorem et_ev {v : Bool} (h : Ev X A e (.dat (.bool v))) (he : ∀ whole, isTrue e X.env whole = (do let v ← whole; standAt e.pos; holding [v] (truthy v)) := by intro _; rfl) : Et X A e v := fun I0 H0 σ I H rl Q q =>
  wt_of (pt_val wx_pe he) (h I0 H0 σ I H rl _ fun u I1 H1 g hv => ⟨v, dp_bool hv, q I1 H1 g⟩)
/-- a list, a tuple by its truth -/
theorem et_seq {k : Bool} {ds : List PyData} (h : EvS X A e k ds) (he : ∀ whole, isTrue e X.env whole = (do let v ← whole; standAt e.pos; holding [v] (truthy v)) := by intro _; rfl) : Et X A e (!ds.isEmpty) := fun I0 H0 σ I H rl Q q =>
  wt_of (pt_truth wx_pe he) (h I0 H0 σ I H rl _ fun p vs I1 H1 g hk ha => ⟨!ds.isEmpty, by
    have e1 : vs.isEmpty = ds.isEmpty := by cases ha <;> rfl
    rw [← e1]
    cases k with
    | true => exact .inl ⟨vs, hk, rfl⟩
    | false => exact .inr (.inl ⟨vs, hk, rfl⟩), q I1 H1 g⟩)
theorem et_not {v : Bool} (h : Et X A a v) : Et X A (.UnaryOp .Not a pos) (!v) := fun I0 H0 σ I H rl Q q => wt_of (pt_not wt_pe) (h I0 H0 σ I H rl _ q)
theorem ew_et {v : Bool} (h : Ew X A e v) : Et X A e v := fun I0 H0 σ I H rl Q q pins s I => (h I0 H0 σ _ H rl Q q) _ pins s I
theorem ew_and1 {v : Bool} (h : Et X A a v) : Ew X A (.BoolOp .And [a] pos) v := fun I0 H0 σ I H rl Q q => ww_of (pw_and1 wt_pe) (h I0 H0 σ I H rl _ q)
theorem ew_or1 {v : Bool} (h : Et X A a v) : Ew X A (.BoolOp .Or [a] pos) v := fun I0 H0 σ I H rl Q q => ww_of (pw_or1 wt_pe) (h I0 H0 σ I H rl _ q)
theorem ew_and {v u : Bool} (h : Et X A a v) (h2 : v = true → Ew X A (.BoolOp .And (b :: es) pos) u) : Ew X A (.BoolOp .And (a :: b :: es) pos) (v && u) := fun I0 H0 σ I H rl Q q =>
  ww_of (pw_and wt_pe ww_pw) (h I0 H0 σ I H rl _ fun I1 H1 g => by
    cases v with
    | true => exact iteT (h2 rfl I0 H0 σ I1 H1 (rl.grow g) Q fun I2 H2 g2 => q I2 H2 (g.trans g2))
    | false => exact iteF (q I1 H1 g))
theorem ew_or {v u : Bool} (h : Et X A a v) (h2 : v = false → Ew X A (.BoolOp .Or (b :: es) pos) u) : Ew X A (.BoolOp .Or (a :: b :: es) pos) (v || u) := fun I0 H0 σ I H rl Q q =>
  ww_of (pw_or wt_pe ww_pw) (h I0 H0 σ I H rl _ fun I1 H1 g => by
    cases v with
    | true => exact iteT (q I1 H1 g)
    | false => exact iteF (h2 rfl I0 H0 σ I1 H1 (rl.grow g) Q fun I2 H2 g2 => q I2 H2 (g.trans g2)))
/-! and, or, not as values -/
theorem ev_not {v : Bool} (h : Ev X A a (.dat (.bool v))) : Ev X A (.UnaryOp .Not a pos) (.dat (.bool (!v))) := fun I0 H0 σ I H rl Q q =>
  wx_of (pe_not wx_pe) (h I0 H0 σ I H rl _ fun u I1 H1 g hv => ⟨v, dp_bool hv, q _ I1 H1 g (Dp.bl _)⟩)
theorem ev_one {op : BoolOp} {c : C} (h : Ev X A a c) : Ev X A (.BoolOp op [a] pos) c := by
  cases op with
  | And => exact fun I0 H0 σ I H rl Q q => wx_of (pe_one wx_pe) (h I0 H0 σ I H rl Q q)
  | Or => exact fun I0 H0 σ I H rl Q q => wx_of (pe_one wx_pe) (h I0 H0 σ I H rl Q q)
theorem ev_and {v u : Bool} (h : Ev X A a (.dat (.bool v))) (h2 : v = true → Ev X A (.BoolOp .And (b :: es) pos) (.dat (.bool u))) : Ev X A (.BoolOp .And (a :: b :: es) pos) (.dat (.bool (v && u))) := fun I0 H0 σ I H rl Q q =>
  wx_of (pe_and wx_pe wx_pe) (h I0 H0 σ I H rl _ fun w I1 H1 g hv => ⟨v, dp_bool hv, by
    cases v with
    | true => exact iteT (h2 rfl I0 H0 σ I1 H1 (rl.grow g) Q fun y I2 H2 g2 hy => q y I2 H2 (g.trans g2) hy)
    | false => exact iteF (q _ I1 H1 g (Dp.bl false))⟩)
theorem ev_or {v u : Bool} (h : Ev X A a (.dat (.bool v))) (h2 : v = false → Ev X A (.BoolOp .Or (b :: es) pos) (.dat (.bool u))) : Ev X A (.BoolOp .Or (a :: b :: es) pos) (.dat (.bool (v || u))) := fun I0 H0 σ I H rl Q q =>
  wx_of (pe_or wx_pe wx_pe) (h I0 H0 σ I H rl _ fun w I1 H1 g hv => ⟨v, dp_bool hv, by
    cases v with
    | true => exact iteT (q _ I1 H1 g (Dp.bl true))
    | false => exact iteF (h2 rfl I0 H0 σ I1 H1 (rl.grow g) Q fun y I2 H2 g2 hy => q y I2 H2 (g.trans g2) hy)⟩)

/-! ### what is walked -/
def Walks (K : PySem.W.Frag) (J : It) (I1 : Hp) (src : List PyData) : Prop :=
  (∀ (i : Nat) (d : PyData), src[i]? = some d → ∀ I2 H2, Same I1 I2 → Same I2 H2 → J.go i H2 ∧ ∀ x H3, J.yld i H2 x H3 → ∃ I3, Grow I2 H2 I3 H3 ∧ Dp K I3 x d) ∧ ∀ I2 H2, Same I1 I2 → Same I2 H2 → J.stop src.length H2
def EvI (X : Cx) (A : List C) (tg e : Expr) (src : List PyData) : Prop := ∃ wi, PI X tg e wi ∧ ∀ I0 H0 σ I H, Rel X.K I0 H0 A σ I H → ∀ R : It → Hp → Prop, (∀ J I' H', Grow I H I' H' → Walks X.K J I' src → R J H') → wi σ H R
theorem walks_list {K : PySem.W.Frag} {I1 : Hp} {a : Addr} {vs : List V} {src : List PyData} (hs : SqL K I1 a vs) (ha : DpAll K I1 vs src) : Walks K (Itl K a) I1 src := by
  refine ⟨fun i d e I2 H2 s1 s2 => ?_, fun I2 H2 s1 s2 => ⟨vs, same_l (s1.trans s2) hs, Nat.le_of_eq (dpAll_len ha)⟩⟩
  obtain ⟨v, e1, e2⟩ := dpAll_get ha e
  refine ⟨⟨vs, v, same_l (s1.trans s2) hs, e1⟩, fun x H3 ⟨e3, f⟩ => ?_⟩
  subst e3
  have e4 : x = v := Option.some.inj ((f _ (same_l (s1.trans s2) hs)).symm.trans e1)
  subst e4
  exact ⟨I2, .refl s2, dp_mono s1 e2⟩
theorem walks_tup {K : PySem.W.Frag} {I1 : Hp} {a : Addr} {vs : List V} {src : List PyData} (hs : SqT K I1 a vs) (ha : DpAll K I1 vs src) : Walks K (Itt K a) I1 src := by
  refine ⟨fun i d e I2 H2 s1 s2 => ?_, fun I2 H2 s1 s2 => ⟨vs, same_t (s1.trans s2) hs, Nat.le_of_eq (dpAll_len ha)⟩⟩
  obtain ⟨v, e1, e2⟩ := dpAll_get ha e
  refine ⟨⟨vs, v, same_t (s1.trans s2) hs, e1⟩, fun x H3 ⟨e3, f⟩ => ?_⟩
  subst e3
  have e4 : x = v := Option.some.inj ((f _ (same_t (s1.trans s2) hs)).symm.trans e1)
  subst e4
  exact ⟨I2, .refl s2, dp_mono s1 e2⟩
theorem walks_rng {K : PySem.W.Frag} {I1 : Hp} {lo : Int} {n : Nat} : Walks K (Itr lo n) I1 ((List.range n).map fun i : Nat => .int (lo + i)) := by
  refine ⟨fun i d e I2 H2 s1 s2 => ?_, fun I2 H2 s1 s2 => by show n ≤ _; simp⟩
  rw [List.getElem?_map] at e
  by_cases hi : i < n
  · rw [List.getElem?_range hi] at e
    refine ⟨hi, fun x H3 ⟨e3, f⟩ => ?_⟩
    subst e3 f
    simp at e
    subst e
    exact ⟨I2, .refl s2, .int _⟩
  · rw [List.getElem?_eq_none (by simpa using hi)] at e
    cases e
theorem ei_list {tg : Expr} {src : List PyData} (h : Ev X A e (.dat (.list src))) : EvI X A tg e src := ⟨_, pi_list wx_pe, fun I0 H0 σ I H rl R q => h I0 H0 σ I H rl _ fun v I1 H1 g hv => by
  obtain ⟨a, vs, rfl, hs, ha⟩ := dp_lst (show Dp X.K I1 v (.list src) from hv)
  exact ⟨a, rfl, ⟨vs, same_l g.ih hs⟩, q _ I1 H1 g (walks_list hs ha)⟩⟩
theorem ei_tup {tg : Expr} {src : List PyData} (h : Ev X A e (.dat (.tuple src))) : EvI X A tg e src := ⟨_, pi_tup wx_pe, fun I0 H0 σ I H rl R q => h I0 H0 σ I H rl _ fun v I1 H1 g hv => by
  obtain ⟨a, vs, rfl, hs, ha⟩ := dp_tup (show Dp X.K I1 v (.tuple src) from hv)
  exact ⟨a, rfl, ⟨vs, same_t g.ih hs⟩, q _ I1 H1 g (walks_tup hs ha)⟩⟩
theorem ei_range {tg : Expr} {n : Int} (hg : Gl X "range") (hm : X.mg "range" = none) (h : Ev X A a (.dat (.int n))) (h1 : -1000000 ≤ n) (h2 : n ≤ 1000000) (hs : starEach (a :: []) X.env = (false, eval a X.env) :: starEach [] X.env := by rfl) :
    EvI X A tg (.Call (.Name "range" p) [a] [] pos) ((List.range n.toNat).map fun i : Nat => .int (i : Int)) := ⟨_, pi_range1 hg hm (pa_cons wx_pe pa_nil hs) hs, fun I0 H0 σ I H rl R q => h I0 H0 σ I H rl _ fun v I1 H1 g hv => by
  refine ⟨n, by rw [dp_int hv], by omega, by omega, q _ I1 H1 g ?_⟩
  have w := walks_rng (K := X.K) (I1 := I1) (lo := 0) (n := n.toNat)
  simp only [Int.zero_add] at w
  exact w⟩
theorem ei_range2 {tg : Expr} {lo hi : Int} (hg : Gl X "range") (hm : X.mg "range" = none) (h : EvA X A [a, b] [.int lo, .int hi]) (h1 : -1000000 ≤ lo) (h2 : lo ≤ 1000000) (h3 : -1000000 ≤ hi) (h4 : hi ≤ 1000000) (hs : starEach [a, b] X.env = [(false, eval a X.env), (false, eval b X.env)] := by rfl) (hs2 : starEach [b] X.env = [(false, eval b X.env)] := by rfl) :
    EvI X A tg (.Call (.Name "range" p) [a, b] [] pos) ((List.range (hi - lo).toNat).map fun i : Nat => .int (lo + i)) := ⟨_, pi_range2 hg hm wa_pa hs hs2, fun I0 H0 σ I H rl R q => h I0 H0 σ I H rl _ fun vs I1 H1 g hv => by
  cases hv with
  | cons a1 a2 => cases a2 with
    | cons a2 a3 =>
      cases a3
      exact ⟨lo, hi, by rw [dp_int a1, dp_int a2], ⟨by omega, by omega, by omega, by omega⟩, q _ I1 H1 g walks_rng⟩⟩

/-! ### targets -/
theorem rel_set {K : PySem.W.Frag} {I0 H0 I H : Hp} {A : List C} {σ : L2.St} (r : Rel K I0 H0 A σ I H) {j : Nat} {v : V} {d : PyData} (hd : Dp K I v d) (hj : j < A.length) : Rel K I0 H0 (A.set j (.dat d)) (σ.set j (some v)) I H where
  gr := r.gr
  len := by rw [List.length_set, List.length_set]; exact r.len
  cell := fun i c h => by
    by_cases hi : j = i
    · subst hi
      rw [List.getElem?_set_self hj] at h
      cases h
      exact ⟨v, List.getElem?_set_self (by rw [r.len]; exact hj), hd⟩
    · rw [List.getElem?_set_ne hi] at h
      have q := r.cell i c h
      rw [List.getElem?_set_ne hi]
      exact q
  apart := fun i i' p ne o1 o2 h => by
    have ji : j ≠ i := fun e => by subst e; rw [List.getElem?_set_self hj] at o1; exact o1
    have ji' : j ≠ i' := fun e => by subst e; rw [List.getElem?_set_self hj] at o2; exact o2
    rw [List.getElem?_set_ne ji] at o1 h
    rw [List.getElem?_set_ne ji'] at o2 ⊢
    exact r.apart i i' p ne o1 o2 h
theorem rel_un {K : PySem.W.Frag} {I0 H0 I H : Hp} {A : List C} {σ : L2.St} (r : Rel K I0 H0 A σ I H) {j : Nat} {x : Option V} : Rel K I0 H0 (A.set j .un) (σ.set j x) I H where
  gr := r.gr
  len := by rw [List.length_set, List.length_set]; exact r.len
  cell := fun i c h => by
    by_cases hi : j = i
    · subst hi
      by_cases hj : j < A.length
      · rw [List.getElem?_set_self hj] at h
        cases h
        trivial
      · rw [List.getElem?_eq_none (by simpa using hj)] at h
        cases h
    · rw [List.getElem?_set_ne hi] at h
      have q := r.cell i c h
      rw [List.getElem?_set_ne hi]
      exact q
  apart := fun i i' p ne o1 o2 h => by
    have key : ∀ i, isOwn (A.set j .un)[i]? → j ≠ i := fun i o e => by
      subst e
      by_cases hj : j < A.length
      · rw [List.getElem?_set_self hj] at o; exact o
      · rw [List.getElem?_eq_none (by simpa using hj)] at o; exact o
    have ji := key i o1
    have ji' := key i' o2
    rw [List.getElem?_set_ne ji] at o1 h
    rw [List.getElem?_set_ne ji'] at o2 ⊢
    exact r.apart i i' p ne o1 o2 h
/-- a new object of the def's own to name j -/
theorem rel_own {K : PySem.W.Frag} {I0 H0 I H Hs : Hp} {A : List C} {σ : L2.St} (r : Rel K I0 H0 A σ I H) {j : Nat} {p : Addr} {o : HO} {b : Ob} (hj : j < A.length) (n0 : H0 p = none) (n : I p = none) (ho : H p = some o) (hb : ObAt K I o b)
    (far : ∀ i : Nat, isOwn A[i]? → σ[i]? ≠ some (some (.ref p))) : Rel K I0 H0 (A.set j (.own b)) (σ.set j (some (.ref p))) I H where
  gr := r.gr
  len := by rw [List.length_set, List.length_set]; exact r.len
  cell := fun i c h => by
    by_cases hi : j = i
    · subst hi
      rw [List.getElem?_set_self hj] at h
      cases h
      exact ⟨p, o, List.getElem?_set_self (by rw [r.len]; exact hj), n0, n, ho, hb⟩
    · rw [List.getElem?_set_ne hi] at h
      have q := r.cell i c h
      rw [List.getElem?_set_ne hi]
      exact q
  apart := fun i i' q ne o1 o2 h => by
    by_cases ji : j = i
    · subst ji
      rw [List.getElem?_set_self (by rw [r.len]; exact hj)] at h
      cases h
      rw [List.getElem?_set_ne ne] at o2 ⊢
      exact far i' o2
    · by_cases ji' : j = i'
      · subst ji'
        rw [List.getElem?_set_self (by rw [r.len]; exact hj)]
        rw [List.getElem?_set_ne ji] at o1 h
        intro z
        have z' := Option.some.inj (Option.some.inj z)
        injection z' with z'
        subst z'
        exact far i o1 h
      · rw [List.getElem?_set_ne ji] at o1 h
        rw [List.getElem?_set_ne ji'] at o2 ⊢
        exact r.apart i i' q ne o1 o2 h
theorem Rel.far {K : PySem.W.Frag} {I0 H0 I H : Hp} {A : List C} {σ : L2.St} (r : Rel K I0 H0 A σ I H) {p : Addr} (n : H p = none) : ∀ i : Nat, isOwn A[i]? → σ[i]? ≠ some (some (.ref p)) := fun i o e => by
  cases q : A[i]? with
  | none => rw [q] at o; exact o
  | some c =>
    rw [q] at o
    cases c with
    | own b =>
      obtain ⟨p', o', e', _, _, ho, _⟩ := r.cell i _ q
      rw [e'] at e
      have z := Option.some.inj (Option.some.inj e)
      injection z with z
      subst z
      rw [n] at ho
      cases ho
    | un => exact o
    | dat d => exact o
    | rf a => exact o
    | tpo ds es => exact o
    | kn a d => exact o
/-- a reference to name j -/
theorem rel_rf {K : PySem.W.Frag} {I0 H0 I H : Hp} {A : List C} {σ : L2.St} (r : Rel K I0 H0 A σ I H) {j : Nat} {a : Addr} (hj : j < A.length) : Rel K I0 H0 (A.set j (.rf a)) (σ.set j (some (.ref a))) I H where
  gr := r.gr
  len := by rw [List.length_set, List.length_set]; exact r.len
  cell := fun i c h => by
    by_cases hi : j = i
    · subst hi
      rw [List.getElem?_set_self hj] at h
      cases h
      exact List.getElem?_set_self (by rw [r.len]; exact hj)
    · rw [List.getElem?_set_ne hi] at h
      have q := r.cell i c h
      rw [List.getElem?_set_ne hi]
      exact q
  apart := fun i i' p ne o1 o2 h => by
    have ji : j ≠ i := fun e => by subst e; rw [List.getElem?_set_self hj] at o1; exact o1
    have ji' : j ≠ i' := fun e => by subst e; rw [List.getElem?_set_self hj] at o2; exact o2
    rw [List.getElem?_set_ne ji] at o1 h
    rw [List.getElem?_set_ne ji'] at o2 ⊢
    exact r.apart i i' p ne o1 o2 h
theorem rel_kn {K : PySem.W.Frag} {I0 H0 I H : Hp} {A : List C} {σ : L2.St} (r : Rel K I0 H0 A σ I H) {j : Nat} {a : Addr} {d : PyData} (hd : Dp K I (.ref a) d) (hj : j < A.length) : Rel K I0 H0 (A.set j (.kn a d)) (σ.set j (some (.ref a))) I H where
  gr := r.gr
  len := by rw [List.length_set, List.length_set]; exact r.len
  cell := fun i c h => by
    by_cases hi : j = i
    · subst hi
      rw [List.getElem?_set_self hj] at h
      cases h
      exact ⟨List.getElem?_set_self (by rw [r.len]; exact hj), hd⟩
    · rw [List.getElem?_set_ne hi] at h
      have q := r.cell i c h
      rw [List.getElem?_set_ne hi]
      exact q
  apart := fun i i' p ne o1 o2 h => by
    have ji : j ≠ i := fun e => by subst e; rw [List.getElem?_set_self hj] at o1; exact o1
    have ji' : j ≠ i' := fun e => by subst e; rw [List.getElem?_set_self hj] at o2; exact o2
    rw [List.getElem?_set_ne ji] at o1 h
    rw [List.getElem?_set_ne ji'] at o2 ⊢
    exact r.apart i i' p ne o1 o2 h
theorem rel_tpo {K : PySem.W.Frag} {I0 H0 I H : Hp} {A : List C} {σ : L2.St} (r : Rel K I0 H0 A σ I H) {j : Nat} {ds es : List PyData} {x : Option V} (hj : j < A.length) : Rel K I0 H0 (A.set j (.tpo ds es)) (σ.set j x) I H where
  gr := r.gr
  len := by rw [List.length_set, List.length_set]; exact r.len
  cell := fun i c h => by
    by_cases hi : j = i
    · subst hi
      rw [List.getElem?_set_self hj] at h
      cases h
      trivial
    · rw [List.getElem?_set_ne hi] at h
      have q := r.cell i c h
      rw [List.getElem?_set_ne hi]
      exact q
  apart := fun i i' p ne o1 o2 h => by
    have ji : j ≠ i := fun e => by subst e; rw [List.getElem?_set_self hj] at o1; exact o1
    have ji' : j ≠ i' := fun e => by subst e; rw [List.getElem?_set_self hj] at o2; exact o2
    rw [List.getElem?_set_ne ji] at o1 h
    rw [List.getElem?_set_ne ji'] at o2 ⊢
    exact r.apart i i' p ne o1 o2 h
/-- a value to name j -/
theorem rel_put {K : PySem.W.Frag} {I0 H0 I H I' H' : Hp} {A : List C} {σ : L2.St} (r : Rel K I0 H0 A σ I H) (g : Grow I H I' H') {j : Nat} {v : V} {c : C} (hv : VR K H I' H' v c) (hj : j < A.length) : Rel K I0 H0 (A.set j c) (σ.set j (some v)) I' H' := by
  have r' := r.grow g
  cases c with
  | un => exact rel_un r'
  | dat d => exact rel_set r' hv hj
  | own b =>
    obtain ⟨p, o, rfl, n, n', ho, hb⟩ := hv
    exact rel_own (Hs := H) r' hj (r.gr.hh.free n) n' ho hb (r.far n)
  | rf a =>
    rw [show v = .ref a from hv]
    exact rel_rf r' hj
  | tpo ds es => exact rel_tpo r' hj
  | kn a d =>
    obtain ⟨rfl, hd⟩ := (show v = .ref a ∧ Dp K I' v d from hv)
    exact rel_kn r' hd hj

/-! ### statements -/
inductive Out where
  | nx (A : List C)
  | rt (c : C)
  | ex (x : Str) (A : List C)
  | bk (A : List C)
def Fin (X : Cx) (I0 H0 I : Hp) (D : Ends) : Out → Prop
  | .nx A => ∀ σ' I' H', Same I I' → Rel X.K I0 H0 A σ' I' H' → D.nx σ' H'
  | .bk A => ∀ σ' I' H', Same I I' → Rel X.K I0 H0 A σ' I' H' → D.bk σ' H'
  | .rt c => ∀ v I' H', Same I I' → Grow I0 H0 I' H' → VR X.K H0 I' H' v c → D.rt v H'
  | .ex x A => ∃ W : WX, Takes X W ∧ ∀ σ' I' H', Same I I' → Rel X.K I0 H0 A σ' I' H' → ∀ c, X.mg x = some (.ref c) → W (.ref c) none σ' H'
def S1 (X : Cx) (A : List C) (st : Stmt) (o : Out) : Prop := ∀ I0 H0 σ I H, Rel X.K I0 H0 A σ I H → ∀ D : Ends, Fin X I0 H0 I D o → Ws X st D σ H
def Sm (X : Cx) (A : List C) (st : List Stmt) (o : Out) : Prop := ∀ I0 H0 σ I H, Rel X.K I0 H0 A σ I H → ∀ D : Ends, Fin X I0 H0 I D o → Wss X st D σ H
theorem Fin.same {I0 H0 I I1 : Hp} {D : Ends} {o : Out} (s : Same I I1) (f : Fin X I0 H0 I D o) : Fin X I0 H0 I1 D o := by
  cases o with
  | nx A => exact fun σ' I' H' s' r => f σ' I' H' (s.trans s') r
  | bk A => exact fun σ' I' H' s' r => f σ' I' H' (s.trans s') r
  | rt c => exact fun v I' H' s' g h => f v I' H' (s.trans s') g h
  | ex x A =>
    obtain ⟨W, tk, f⟩ := f
    exact ⟨W, tk, fun σ' I' H' s' r => f σ' I' H' (s.trans s') r⟩
/-- ends that agree where o looks -/
theorem Fin.nxD {I0 H0 I : Hp} {D : Ends} {o : Out} {n : L2.St → Hp → Prop} (ho : ∀ A, o ≠ .nx A) (f : Fin X I0 H0 I D o) : Fin X I0 H0 I { D with nx := n } o := by
  cases o with
  | nx A => exact absurd rfl (ho A)
  | bk A => exact f
  | rt c => exact f
  | ex x A => exact f
def Out.isNx : Out → Bool
  | .nx _ => true
  | _ => false
theorem sm_nil : Sm X A [] (.nx A) := fun I0 H0 σ I H rl D f => wss_of pss_nil (f σ I H (Same.refl _) rl)
theorem sm_cons {st : Stmt} {r : List Stmt} {A1 : List C} {o : Out} (h1 : S1 X A st (.nx A1)) (h2 : Sm X A1 r o) : Sm X A (st :: r) o := fun I0 H0 σ I H rl D f =>
  wss_of (pss_cons ws_ps wss_pss) (h1 I0 H0 σ I H rl _ fun σ' I' H' s rl' => h2 I0 H0 σ' I' H' rl' D (f.same s))
theorem sm_end {st : Stmt} {r : List Stmt} {o : Out} (h1 : S1 X A st o) (ho : o.isNx = false := by rfl) : Sm X A (st :: r) o := fun I0 H0 σ I H rl D f =>
  wss_of (pss_cons ws_ps wss_pss) (h1 I0 H0 σ I H rl _ (f.nxD fun A e => by rw [e] at ho; cases ho))
theorem sm_one {st : Stmt} {o : Out} (h1 : S1 X A st o) : Sm X A [st] o := fun I0 H0 σ I H rl D f => wss_of (pss_one ws_ps) (h1 I0 H0 σ I H rl D f)
/-- less is known behind -/
def LeC (c c' : C) : Prop := c' = .un ∨ c = c'
def LeA (A A' : List C) : Prop := A.length = A'.length ∧ ∀ (i : Nat) (c c' : C), A[i]? = some c → A'[i]? = some c' → LeC c c'
theorem LeA.rel {K : PySem.W.Frag} {I0 H0 I H : Hp} {A A' : List C} {σ : L2.St} (l : LeA A A') (r : Rel K I0 H0 A σ I H) : Rel K I0 H0 A' σ I H where
  gr := r.gr
  len := by rw [r.len, l.1]
  cell := fun i c' h => by
    have hi : i < A'.length := by
      by_cases hi : i < A'.length
      · exact hi
      · rw [List.getElem?_eq_none (by omega)] at h; cases h
    have hA : A[i]? = some (A[i]'(by rw [l.1]; exact hi)) := List.getElem?_eq_getElem _
    rcases l.2 i _ c' hA h with z | z
    · subst z; trivial
    · rw [← z]; exact r.cell i _ hA
  apart := fun i j p ne o1 o2 h => by
    have key : ∀ i : Nat, isOwn A'[i]? → isOwn A[i]? := fun i o => by
      have hi : i < A'.length := by
        by_cases hi : i < A'.length
        · exact hi
        · rw [List.getElem?_eq_none (by omega)] at o; exact o.elim
      have hA : A[i]? = some (A[i]'(by rw [l.1]; exact hi)) := List.getElem?_eq_getElem _
      have hA' : A'[i]? = some A'[i] := List.getElem?_eq_getElem _
      rcases l.2 i _ _ hA hA' with z | z
      · rw [hA', z] at o; exact o.elim
      · rw [hA, z, ← hA']; exact o
    exact r.apart i j p ne (key i o1) (key j o2) h
theorem LeA.refl : LeA A A := ⟨rfl, fun i c c' h h' => .inr (Option.some.inj (h.symm.trans h'))⟩
theorem LeA.nil : LeA [] [] := LeA.refl
theorem LeA.cons {c c' : C} {A A' : List C} (h : LeC c c') (t : LeA A A') : LeA (c :: A) (c' :: A') := ⟨by rw [List.length_cons, List.length_cons, t.1], fun i d d' h1 h2 => by
  cases i with
  | zero => simp at h1 h2; subst h1 h2; exact h
  | succ i => exact t.2 i d d' (by simpa using h1) (by simpa using h2)⟩
theorem LeC.un {c : C} : LeC c .un := .inl rfl
theorem LeC.refl {c : C} : LeC c c := .inr rfl
theorem LeC.eq {c c' : C} (h : c = c') : LeC c c' := .inr h
theorem LeC.dat {d d' : PyData} (h : d = d') : LeC (.dat d) (.dat d') := .inr (by rw [h])
theorem LeC.int {d d' : Int} (h : d = d') : LeC (.dat (.int d)) (.dat (.int d')) := .inr (by rw [h])
theorem LeC.str {d d' : Str} (h : d = d') : LeC (.dat (.str d)) (.dat (.str d')) := .inr (by rw [h])
theorem LeC.tup {d d' : List PyData} (h : d = d') : LeC (.dat (.tuple d)) (.dat (.tuple d')) := .inr (by rw [h])
theorem LeC.tupI {d d' : List Int} (h : d = d') : LeC (.dat (.tuple (d.map .int))) (.dat (.tuple (d'.map .int))) := .inr (by rw [h])
theorem LeC.own {d d' : List PyData} (h : d = d') : LeC (.own (.lst d)) (.own (.lst d')) := .inr (by rw [h])
theorem sm_le {st : List Stmt} {A1 A2 : List C} (h : Sm X A st (.nx A1)) (l : LeA A1 A2) : Sm X A st (.nx A2) := fun I0 H0 σ I H rl D f => h I0 H0 σ I H rl D fun σ' I' H' s r => f σ' I' H' s (l.rel r)
theorem s1_le {st : Stmt} {A1 A2 : List C} (h : S1 X A st (.nx A1)) (l : LeA A1 A2) : S1 X A st (.nx A2) := fun I0 H0 σ I H rl D f => h I0 H0 σ I H rl D fun σ' I' H' s r => f σ' I' H' s (l.rel r)
theorem sm_pre {st : List Stmt} {A1 : List C} {o : Out} (l : LeA A A1) (h : Sm X A1 st o) : Sm X A st o := fun I0 H0 σ I H rl D f => h I0 H0 σ I H (l.rel rl) D f

theorem lt_of_some {A : List C} {j : Nat} (h : A[j]?.isSome = true) : j < A.length := by
  by_cases hj : j < A.length
  · exact hj
  · rw [List.getElem?_eq_none (by omega)] at h; cases h
theorem s1_set (j : Nat) {c : C} {pos' : Pos} {A1 : List C} (hN : X.N.Nodup) (hi : X.N[j]? = some x) (hx : Loc X.env.scope x) (he : Ev X A e c) (hj : A[j]?.isSome = true) (hA : A.set j c = A1) (hs : swapsWith e (some (.Name x pos')) pos.line X.env = pure false := by rfl)
    (hf : X.fn x = true ∨ X.env.scope.names.lookup x = some .local := by first | exact .inl rfl | exact .inr rfl | assumption) : S1 X A (.Assign [.Name x pos'] e pos) (.nx A1) := fun I0 H0 σ I H rl D f => by
  subst hA
  exact ws_of (ps_set hN hi hx wx_pe hs hf) (he I0 H0 σ I H rl _ fun v I1 H1 g hv => f _ I1 H1 g.ii (rel_put rl g hv (lt_of_some hj)))
theorem s1_ret {c : C} (he : Ev X A e c) : S1 X A (.Return (some e) pos) (.rt c) := fun I0 H0 σ I H rl D f =>
  ws_of (ps_ret wx_pe) (he I0 H0 σ I H rl _ fun v I1 H1 g hv => f v I1 H1 g.ii (rl.gr.trans g) (hv.back rl.gr.hh))
/-- return of the def's own list -/
theorem s1_retO (j : Nat) {ob : Ob} (hN : X.N[j]? = some x) (hA : A[j]? = some (.own ob)) (hv : Vis X.env.scope x) (hd : (x == ("__debug__" : Str)) = false := by decide) (hcd : (x == ("__classdict__" : Str)) = false := by decide) :
    S1 X A (.Return (some (.Name x p)) pos) (.rt (.own ob)) := fun I0 H0 σ I H rl D f => by
  obtain ⟨q, o, e, n0, n, ho, hb⟩ := rl.cell j _ hA
  exact ws_of (ps_ret (pe_var hN hv hd hcd)) ⟨.ref q, e, f _ I H (Same.refl _) rl.gr ⟨q, o, rfl, n0, n, ho, hb⟩⟩
theorem s1_if {v : Bool} {s1 s2 : List Stmt} {o : Out} (hc : Et X A a v) (h1 : v = true → Sm X A s1 o) (h2 : v = false → Sm X A s2 o) : S1 X A (.If a s1 s2 pos) o := fun I0 H0 σ I H rl D f =>
  ws_of (ps_if wt_pe wss_pss wss_pss) (hc I0 H0 σ I H rl _ fun I1 H1 g => by
    cases v with
    | true => exact iteT (h1 rfl I0 H0 σ I1 H1 (rl.grow g) D (f.same g.ii))
    | false => exact iteF (h2 rfl I0 H0 σ I1 H1 (rl.grow g) D (f.same g.ii)))
/-- xs.append(e), xs the def's own list -/
theorem s1_append (j : Nat) {ds : List PyData} {d : PyData} {A1 : List C} {p3 p4 : Pos} (hN : X.N[j]? = some x) (hA : A[j]? = some (.own (.lst ds))) (hv : Vis X.env.scope x) (he : Ev X A e (.dat d)) (hz : ds.length < sizeLine) (hA1 : A.set j (.own (.lst (ds ++ [d]))) = A1)
    (hd : (x == ("__debug__" : Str)) = false := by decide) (hcd : (x == ("__classdict__" : Str)) = false := by decide) (hs : starEach (e :: []) X.env = (false, eval e X.env) :: starEach [] X.env := by rfl) (hpl : ((backTo p3 (starEach (e :: []) X.env)).all (fun x => !x.1) && (backToKw p3 (keywordEach [] X.env)).all (fun x => x.1.isSome) && decide (([e] : List Expr).length + ([] : List Keyword).length + (if ([] : List Keyword).isEmpty then 0 else 1) < 30)) = true := by rfl) (hline : (p2.endLine == p3.line) = true := by rfl)
    (hsw : swapsWith (.Call (.Attribute (.Name x p) "append" p2) [e] [] p3) none p4.line X.env = pure false := by rfl) : S1 X A (.Expr (.Call (.Attribute (.Name x p) "append" p2) [e] [] p3) p4) (.nx A1) := fun I0 H0 σ I H rl D f => by
  subst hA1
  have hj : j < A.length := by
    by_cases hj : j < A.length
    · exact hj
    · rw [List.getElem?_eq_none (by omega)] at hA; cases hA
  obtain ⟨q, o, e1, n0, n, ho, hb⟩ := rl.cell j _ hA
  obtain ⟨vs, rfl, ha⟩ := obAt_lst hb
  refine ws_of (ps_expr (pe_bm PySem.F.plainAttrs_list PySem.F.slot_list_append PySem.F.type_list_append mt_append (pe_var hN hv hd hcd) (pa_cons wx_pe pa_nil hs) (hfew := hpl) (hline := hline) (hs := hs) (hplain := rfl)) hsw) ⟨.ref q, e1, .inl ⟨rfl, _, .inl (.inl ho)⟩, ?_⟩
  refine he I0 H0 σ I H rl _ fun v I1 H1 g hv1 => ⟨q, vs, v, rfl, rfl, g.hh _ _ ho, by rw [dpAll_len ha]; exact hz, ?_⟩
  have n1 := g.nw q _ ho n
  have r1 := rl.grow g
  refine f σ I1 _ g.ii ⟨r1.gr.mut n0 n1, by rw [List.length_set]; exact r1.len, fun i c hc => ?_, fun i i' r ne o1 o2 h => ?_⟩
  · by_cases hi : j = i
    · subst hi
      rw [List.getElem?_set_self hj] at hc
      cases hc
      exact ⟨q, _, e1, n0, n1, upd_same, dpAll_append (dpAll_mono g.ii ha) (dpAll_one hv1)⟩
    · rw [List.getElem?_set_ne hi] at hc
      have z := r1.cell i c hc
      cases c with
      | un => trivial
      | rf a => exact z
      | tpo ds es => trivial
      | kn a d => exact z
      | dat d => exact z
      | own b =>
        obtain ⟨q2, o2, e2, m0, m, ho2, hb2⟩ := z
        refine ⟨q2, o2, e2, m0, m, ?_, hb2⟩
        have hne : q2 ≠ q := fun z => by
          subst z
          exact rl.apart j i q2 hi (by rw [hA]; trivial) (by rw [hc]; trivial) e1 e2
        rw [upd_ne hne]
        exact ho2
  · have key : ∀ i : Nat, isOwn (A.set j (.own (.lst (ds ++ [d]))))[i]? → isOwn A[i]? := fun i o => by
      by_cases hi : j = i
      · subst hi; rw [hA]; trivial
      · rw [List.getElem?_set_ne hi] at o; exact o
    exact r1.apart i i' r ne (key i o1) (key i' o2) h
/-- a name of the def's own list is from now on data -/
theorem sm_frz (j : Nat) {ds : List PyData} {st : List Stmt} {o : Out} (hA : A[j]? = some (.own (.lst ds))) (h : Sm X (A.set j (.dat (.list ds))) st o) : Sm X A st o := fun I0 H0 σ I H rl D f => by
  have hj : j < A.length := by
    by_cases hj : j < A.length
    · exact hj
    · rw [List.getElem?_eq_none (by omega)] at hA; cases hA
  obtain ⟨q, o', e1, n0, n, ho, hb⟩ := rl.cell j _ hA
  obtain ⟨vs, rfl, ha⟩ := obAt_lst hb
  have s2 : Same I (upd I q (.lst vs)) := fun b u z => by rw [upd_ne (ne_of_none z n)]; exact z
  refine h I0 H0 σ (upd I q (.lst vs)) H ⟨rl.gr.know n0 n ho, by rw [List.length_set]; exact rl.len, fun i c hc => ?_, fun i i' r ne o1 o2 hr => ?_⟩ D (f.same s2)
  · by_cases hi : j = i
    · subst hi
      rw [List.getElem?_set_self hj] at hc
      cases hc
      exact ⟨.ref q, e1, .lst (.inl (.inl upd_same)) (dpAll_mono s2 ha)⟩
    · rw [List.getElem?_set_ne hi] at hc
      have z := rl.cell i c hc
      cases c with
      | un => trivial
      | rf a => exact z
      | tpo ds es => trivial
      | kn a d => exact ⟨z.1, dp_mono s2 z.2⟩
      | dat d => obtain ⟨v, e2, hd⟩ := z; exact ⟨v, e2, dp_mono s2 hd⟩
      | own b =>
        obtain ⟨q2, o2, e2, m0, m, ho2, hb2⟩ := z
        have hne : q2 ≠ q := fun z => by
          subst z
          exact rl.apart j i q2 hi (by rw [hA]; trivial) (by rw [hc]; trivial) e1 e2
        exact ⟨q2, o2, e2, m0, by rw [upd_ne hne]; exact m, ho2, obAt_mono s2 hb2⟩
  · have key : ∀ i : Nat, isOwn (A.set j (.dat (.list ds)))[i]? → isOwn A[i]? := fun i o => by
      by_cases hi : j = i
      · subst hi; rw [hA]; trivial
      · rw [List.getElem?_set_ne hi] at o; exact o
    exact rl.apart i i' r ne (key i o1) (key i' o2) hr
end
end LR

set_option Elab.async false
set_option linter.all false
set_option maxRecDepth 100000
set_option maxHeartbeats 4000000
/-! The layer LR, part d: comprehensions, for, while, raise, the rule of a def. -/
namespace LR
open PySem PySem.Spec PyProof.Rows L2

section
variable {X : Cx} {e a b : Expr} {es : List Expr} {σ : L2.St} {H : Hp} {Q : VK} {A : List C} {pos p p2 : Pos} {x : Str}

/-- what a target does: U says how the state of the names becomes -/
structure TgOk (K : PySem.W.Frag) (g : TG) (U : List C → PyData → List C → Prop) : Prop where
  run : ∀ I0 H0 σ I H A d A' v, U A d A' → Rel K I0 H0 A σ I H → Dp K I v d → ∀ Q : L2.St → Hp → Prop, (∀ σ', Rel K I0 H0 A' σ' I H → Q σ' H) → g v σ H Q
def uName (j : Nat) : List C → PyData → List C → Prop := fun A d A' => A[j]?.isSome = true ∧ A' = A.set j (.dat d)
def uNames : List Nat → List C → List PyData → List C → Prop
  | [], A, ds, A' => ds = [] ∧ A' = A
  | j :: js, A, ds, A' => ∃ d r, ds = d :: r ∧ A[j]?.isSome = true ∧ uNames js (A.set j (.dat d)) r A'
def uTup (js : List Nat) : List C → PyData → List C → Prop := fun A d A' => ∃ ds, d = .tuple ds ∧ uNames js A ds A'
theorem tg_name {K : PySem.W.Frag} {j : Nat} : TgOk K (gName j) (uName j) := ⟨fun I0 H0 σ I H A d A' v ⟨hj, e⟩ r hd Q q => by subst e; exact q _ (rel_set r hd (lt_of_some hj))⟩
def gNames : List Nat → TGs
  | [] => gNil
  | j :: js => gCons (gName j) (gNames js)
theorem tg_names {K : PySem.W.Frag} : ∀ {js : List Nat} {I0 H0 : Hp} {σ : L2.St} {I H : Hp} {A A' : List C} {ds : List PyData} {vs : List V}, uNames js A ds A' → Rel K I0 H0 A σ I H → DpAll K I vs ds → ∀ Q : L2.St → Hp → Prop, (∀ σ', Rel K I0 H0 A' σ' I H → Q σ' H) → gNames js vs σ H Q
  | [], _, _, _, _, _, _, _, _, _, ⟨e1, e2⟩, r, hv, Q, q => by subst e1 e2; cases hv; exact ⟨rfl, q _ r⟩
  | j :: js, I0, H0, σ, I, H, A, A', ds, vs, ⟨d, rd, e1, hj, u⟩, r, hv, Q, q => by
    subst e1
    cases hv with
    | cons h1 h2 => exact ⟨_, _, rfl, tg_names u (rel_set r h1 (lt_of_some hj)) h2 Q q⟩
theorem uNames_len : ∀ {js : List Nat} {A A' : List C} {ds : List PyData}, uNames js A ds A' → ds.length = js.length
  | [], _, _, _, ⟨e, _⟩ => by subst e; rfl
  | j :: js, _, _, _, ⟨d, r, e, _, u⟩ => by subst e; rw [List.length_cons, List.length_cons, uNames_len u]
theorem tg_tup {K : PySem.W.Frag} {js : List Nat} : TgOk K (gTup K js.length (gNames js)) (uTup js) := ⟨fun I0 H0 σ I H A d A' v ⟨ds, e, u⟩ r hd Q q => by
  subst e
  obtain ⟨p, vs, rfl, hs, ha⟩ := dp_tup hd
  exact ⟨p, vs, rfl, same_t r.ih hs, by rw [dpAll_len ha, uNames_len u], tg_names u r ha Q q⟩⟩

/-! ### for -/
inductive ExitOf : Out → Out → Prop
  | rt (c : C) : ExitOf (.rt c) (.rt c)
  | ex (x : Str) (A : List C) : ExitOf (.ex x A) (.ex x A)
  | bk (A : List C) : ExitOf (.bk A) (.nx A)
theorem s1_for {tg : Expr} {body : List Stmt} {src : List PyData} {g : TG} {U : List C → PyData → List C → Prop} {o : Out} (hp : PassesOwn (model X.prog X.w) X.A X.env X.xe) (hc : X.calm = true) (hi : EvI X A tg e src) (hg : PG X tg g) (ht : TgOk X.K g U)
    (inv : Nat → List C) (n : Nat) (hn : n ≤ src.length) (h0 : LeA A (inv 0))
    (hb : ∀ (i : Nat) (d : PyData), i < n → src[i]? = some d → ∃ A1, U (inv i) d A1 ∧ Sm X A1 body (.nx (inv (i + 1))))
    (he : (n = src.length ∧ o = .nx (inv n)) ∨ ∃ d A1 o', src[n]? = some d ∧ U (inv n) d A1 ∧ Sm X A1 body o' ∧ ExitOf o' o) (hs : ∀ x, foldedSetIterable e X.env x = pure x := by intro _; rfl) : S1 X A (.For tg e body [] pos) o := fun I0 H0 σ I H rl D f => by
  obtain ⟨wi, hpi, hwi⟩ := hi
  refine ws_of (ps_for hp hc hpi hg wss_pss hs) (hwi I0 H0 σ I H rl _ fun J I1 H1 g1 hJ => ?_)
  have f1 := f.same g1.ii
  refine ⟨fun i m σ' H' => m = n - i ∧ i ≤ n ∧ ∃ I', Same I1 I' ∧ Rel X.K I0 H0 (inv i) σ' I' H', ⟨n, by simp, Nat.zero_le _, I1, Same.refl _, h0.rel (rl.grow g1)⟩, ?_⟩
  rintro i m σ' H' ⟨rfl, hin, I', s1, r'⟩
  by_cases hlt : i < n
  · have hd : src[i]? = some (src[i]'(by omega)) := List.getElem?_eq_getElem _
    obtain ⟨go, yl⟩ := hJ.1 i _ hd I' H' s1 r'.ih
    refine .inr ⟨go, fun σ2 H2 => ∃ I2, Same I1 I2 ∧ Rel X.K I0 H0 (inv (i + 1)) σ2 I2 H2, fun σ2 H2 ⟨I2, s2, r2⟩ => ⟨n - (i + 1), by omega, rfl, hlt, I2, s2, r2⟩, fun v H3 hy => ?_⟩
    obtain ⟨I3, g3, hv⟩ := yl v H3 hy
    obtain ⟨A1, hU, hS⟩ := hb i _ hlt hd
    refine ht.run I0 H0 σ' I3 H3 _ _ A1 v hU (r'.grow g3) hv _ fun σ2 r2 => ?_
    have q := hS I0 H0 σ2 I3 H3 r2 { D with nx := fun σ2 H2 => ∃ I2, Same I1 I2 ∧ Rel X.K I0 H0 (inv (i + 1)) σ2 I2 H2, ct := fun σ2 H2 => ∃ I2, Same I1 I2 ∧ Rel X.K I0 H0 (inv (i + 1)) σ2 I2 H2, bk := D.nx }
      fun σ4 I4 H4 s4 r4 => ⟨I4, (s1.trans g3.ii).trans s4, r4⟩
    exact q
  · have ein : i = n := by omega
    subst ein
    rcases he with ⟨e1, e2⟩ | ⟨d, A1, o', hd, hU, hS, hx⟩
    · subst e2
      refine .inl ⟨?_, ?_⟩
      · rw [e1]; exact hJ.2 I' H' s1 r'.ih
      · exact f1 σ' I' H' s1 r'
    · obtain ⟨go, yl⟩ := hJ.1 i _ hd I' H' s1 r'.ih
      refine .inr ⟨go, fun _ _ => False, fun _ _ h => h.elim, fun v H3 hy => ?_⟩
      obtain ⟨I3, g3, hv⟩ := yl v H3 hy
      refine ht.run I0 H0 σ' I3 H3 _ _ A1 v hU (r'.grow g3) hv _ fun σ2 r2 => ?_
      refine hS I0 H0 σ2 I3 H3 r2 { D with nx := fun _ _ => False, ct := fun _ _ => False, bk := D.nx } ?_
      have f3 := f1.same (s1.trans g3.ii)
      cases hx with
      | rt c => exact f3
      | ex x A => exact f3
      | bk A => exact f3
/-! ### while -/
theorem s1_while {c : Expr} {body : List Stmt} {o : Out} (hp : PassesOwn (model X.prog X.w) X.A X.env X.xe) (inv : Nat → List C) (n : Nat) (h0 : LeA A (inv 0))
    (hb : ∀ i, i < n → Et X (inv i) c true ∧ Sm X (inv i) body (.nx (inv (i + 1))))
    (he : (Et X (inv n) c false ∧ o = .nx (inv n)) ∨ ∃ o', Et X (inv n) c true ∧ Sm X (inv n) body o' ∧ ExitOf o' o) : S1 X A (.While c body [] pos) o := fun I0 H0 σ I H rl D f => by
  refine ws_of (ps_while hp wt_pe wss_pss) ?_
  refine ⟨fun m σ' H' => ∃ i, m = n - i ∧ i ≤ n ∧ ∃ I', Same I I' ∧ Rel X.K I0 H0 (inv i) σ' I' H', ⟨n, 0, by simp, Nat.zero_le _, I, Same.refl _, h0.rel rl⟩, ?_⟩
  rintro m σ' H' ⟨i, rfl, hin, I', s1, r'⟩
  by_cases hlt : i < n
  · obtain ⟨hc, hS⟩ := hb i hlt
    refine hc I0 H0 σ' I' H' r' _ fun I2 H2 g2 => ?_
    refine iteT ⟨fun σ2 H2 => ∃ I2, Same I I2 ∧ Rel X.K I0 H0 (inv (i + 1)) σ2 I2 H2, fun σ2 H2 ⟨I2, s2, r2⟩ => ⟨n - (i + 1), by omega, i + 1, rfl, hlt, I2, s2, r2⟩, ?_⟩
    exact hS I0 H0 σ' I2 H2 (r'.grow g2) _ fun σ4 I4 H4 s4 r4 => ⟨I4, (s1.trans g2.ii).trans s4, r4⟩
  · have ein : i = n := by omega
    subst ein
    have f1 := f.same s1
    rcases he with ⟨hc, e2⟩ | ⟨o', hc, hS, hx⟩
    · subst e2
      exact hc I0 H0 σ' I' H' r' _ fun I2 H2 g2 => iteF (f1 σ' I2 H2 g2.ii (r'.grow g2))
    · refine hc I0 H0 σ' I' H' r' _ fun I2 H2 g2 => iteT ⟨fun _ _ => False, fun _ _ h => h.elim, ?_⟩
      refine hS I0 H0 σ' I2 H2 (r'.grow g2) _ ?_
      have f3 := f1.same g2.ii
      cases hx with
      | rt c => exact f3
      | ex x A => exact f3
      | bk A => exact f3

/-! ### list comprehensions -/
def blkOf (X : Cx) (scope : Scope) (s : Shared) (H : Hp) (C : Addr) (cl : List (Str × Addr)) (fp : List Addr) : Cx := X.blk s H scope (compEnvC scope cl C X.env) fp
/-- .. in every block of it -/
def EvB (X : Cx) (scope : Scope) (A : List C) (e : Expr) (d : PyData) : Prop := ∀ s H C cl fp, Ev (X.blk s H scope (compEnvC scope cl C X.env) fp) A e (.dat d)
def EtB (X : Cx) (scope : Scope) (A : List C) (ifs : List Expr) (v : Bool) : Prop := match ifs with
  | [] => v = true
  | [c] => ∀ s H C cl fp, Et (X.blk s H scope (compEnvC scope cl C X.env) fp) A c v
  | _ => False
theorem rel_out {K : PySem.W.Frag} {I0 H0 I H : Hp} {A : List C} {σ : L2.St} {D : Addr} {o : HO} (r : Rel K I0 H0 A σ I H) (n0 : H0 D = none) (n : I D = none) (far : ∀ i : Nat, isOwn A[i]? → σ[i]? ≠ some (some (.ref D))) : Rel K I0 H0 A σ I (upd H D o) where
  gr := r.gr.mut n0 n
  len := r.len
  cell := fun i c h => by
    have z := r.cell i c h
    cases c with
    | un => trivial
    | rf a => exact z
    | tpo ds es => trivial
    | kn a d => exact z
    | dat d => exact z
    | own b =>
      obtain ⟨q, o2, e, m0, m, ho, hb⟩ := z
      have hne : q ≠ D := fun z => by
        subst z
        exact far i (by rw [h]; trivial) e
      exact ⟨q, o2, e, m0, m, by rw [upd_ne hne]; exact ho, hb⟩
  apart := r.apart
def wipeA (A : List C) : List Nat → List C
  | [] => A
  | v :: vs => (wipeA A vs).set v .un
theorem rel_wipe {K : PySem.W.Frag} {I0 H0 I H : Hp} {A : List C} {σ : L2.St} (r : Rel K I0 H0 A σ I H) : ∀ vs : List Nat, Rel K I0 H0 (wipeA A vs) (wipe σ vs) I H
  | [] => r
  | v :: vs => rel_un (rel_wipe r vs)
theorem isOwn_wipe {A : List C} {i : Nat} : ∀ {vs : List Nat}, isOwn (wipeA A vs)[i]? → isOwn A[i]? ∧ i ∉ vs
  | [], h => ⟨h, by simp⟩
  | v :: vs, h => by
    unfold wipeA at h
    by_cases hv : v = i
    · subst hv
      by_cases hl : v < (wipeA A vs).length
      · rw [List.getElem?_set_self hl] at h; exact h.elim
      · rw [List.getElem?_eq_none (by simpa using hl)] at h; exact h.elim
    · rw [List.getElem?_set_ne hv] at h
      obtain ⟨h1, h2⟩ := isOwn_wipe (vs := vs) h
      exact ⟨h1, by simp [h2]; exact fun z => hv z.symm⟩
/-- the block's target stores to the block's own names alone -/
structure TgW (g : TG) (vs : List Nat) : Prop where
  run : ∀ v σ H Q, g v (wipe σ vs) H Q → g v (wipe σ vs) H fun σ2 H2 => wipe σ2 vs = wipe σ vs ∧ Q σ2 H2
theorem set_set_none {σ : L2.St} {j : Nat} {x : Option V} : ((σ.set j none).set j x).set j none = σ.set j none := by rw [List.set_set, List.set_set]
theorem tgw_name {j : Nat} : TgW (gName j) [j] := ⟨fun v σ H Q q => ⟨by
  show ((σ.set j none).set j (some v)).set j none = σ.set j none
  exact set_set_none, q⟩⟩
theorem tgw_two {K : PySem.W.Frag} {i j : Nat} (hij : i ≠ j) : TgW (gTup K [i, j].length (gNames [i, j])) [i, j] := ⟨fun v σ H Q q => by
  obtain ⟨a, xs, e1, hs, hl, v1, r1, e2, v2, r2, e3, e4, q⟩ := q
  refine ⟨a, xs, e1, hs, hl, v1, r1, e2, v2, r2, e3, e4, (by
  show (List.set (List.set ((List.set (List.set (List.set (List.set σ j none) i none) i (some v1)) j (some v2))) j none) i none) = List.set (List.set σ j none) i none
  apply List.ext_getElem?
  intro k
  simp only [List.getElem?_set, List.length_set]
  by_cases h1 : i = k
  · simp [h1]
  · by_cases h2 : j = k
    · simp [h1, h2]
    · simp [h1, h2]), q⟩⟩
theorem lc_both {α : Type} {elt tg iter : Expr} {ifs : List Expr} {scope : Scope} {own : List (Str × Nat)} {g : TG} {U : List C → PyData → List C → Prop} {src : List PyData} (xs : List α) (enc : α → PyData) (pr : α → Bool) (f : α → PyData)
    (hc : X.calm = true) (hN : X.N.Nodup) (hi : EvI X A tg iter src) (hsrc : src = xs.map enc) (ok : BlkOk X.N X.env.scope scope own)
    (hg : ∀ (s : Shared) (H : Hp) (C : Addr) (cl : List (Str × Addr)) (fp : List Addr), PG (X.blk s H scope (compEnvC scope cl C X.env) fp) tg g) (ht : TgOk X.K g U) (hw : TgW g (own.map (·.2)))
    (hl : ifs.length ≤ 1) (hz : xs.length < sizeLine)
    (hb : ∀ x, x ∈ xs → ∃ A1, U (wipeA A (own.map (·.2))) (enc x) A1 ∧ EtB X scope A1 ifs (pr x) ∧ (pr x = true → EvB X scope A1 elt (f x)))
    (hs : ∀ x, foldedSetIterable iter X.env x = pure x := by intro _; rfl) :
    ∃ t : TE, PE X (.ListComp elt [⟨tg, iter, ifs, 0⟩] scope pos) t ∧ (∀ (i : Nat) (y : Str) (py spos : Pos), X.N[i]? = some y → X.env.scope.names.lookup y = some .local → swapsWith (.ListComp elt [⟨tg, iter, ifs, 0⟩] scope pos) (some (.Name y py)) spos.line X.env = pure true →
      PS X (.Assign [.Name y py] (.ListComp elt [⟨tg, iter, ifs, 0⟩] scope pos) spos) (tAsg t (gName i))) ∧ ∀ I0 H0 σ I H, Rel X.K I0 H0 A σ I H → ∀ Q : VK, (∀ v I' H', Grow I H I' H' → VR X.K H I' H' v (.own (.lst ((xs.filter pr).map f))) → Q v H') → t σ H Q := by
  subst hsrc
  obtain ⟨wi, hpi, hwi⟩ := hi
  let te : TE := fun σ H Q => ∀ s H' C cl fp, Wx (X.blk s H' scope (compEnvC scope cl C X.env) fp) elt σ H Q
  let tt : TT := match ifs with
    | [] => tYes
    | c :: _ => fun σ H Q => ∀ s H' C cl fp, Wt (X.blk s H' scope (compEnvC scope cl C X.env) fp) c σ H Q
  have htt : ∀ (s : Shared) (H : Hp) (C : Addr) (cl : List (Str × Addr)) (fp : List Addr), PTs (X.blk s H scope (compEnvC scope cl C X.env) fp) ifs tt := fun s H C cl fp => by
    cases ifs with
    | nil => exact pts_nil
    | cons c r =>
      cases r with
      | nil => exact pts_one ⟨fun pins s' σ H' Q I h => h s H C cl fp pins s' I⟩
      | cons c2 r => simp at hl
  refine ⟨_, pe_lc hc hN hpi ok hg htt (te := te) (fun s H C cl fp => ⟨fun pins s' σ H' Q I h => h s H C cl fp pins s' I⟩) hs, fun i y py spos h1 h2 h3 => ps_setLc hc hN h1 h2 h3 hpi ok hg htt (te := te) (fun s H C cl fp => ⟨fun pins s' σ H' Q I h => h s H C cl fp pins s' I⟩) hs, fun I0 H0 σ I H rl Q q => ?_⟩
  refine hwi I0 H0 σ I H rl _ fun J I1 H1 g1 hJ D hD => ?_
  have r1 := rl.grow g1
  have n0 : H0 D = none := r1.gr.hh.free hD
  have far : ∀ i : Nat, isOwn (wipeA A (own.map (·.2)))[i]? → (wipe σ (own.map (·.2)))[i]? ≠ some (some (.ref D)) := fun i o => by
    obtain ⟨o1, o2⟩ := isOwn_wipe o
    rw [wipe_out o2]
    exact r1.far hD i o1
  refine ⟨fun i m H' => m = xs.length - i ∧ i ≤ xs.length ∧ ∃ I' acc, Same I1 I' ∧ Grow I H I' H' ∧ I' D = none ∧ H' D = some (.lst acc) ∧ DpAll X.K I' acc (((xs.take i).filter pr).map f) ∧ Rel X.K I0 H0 (wipeA A (own.map (·.2))) (wipe σ (own.map (·.2))) I' H',
    ⟨xs.length, by simp, Nat.zero_le _, I1, [], Same.refl _, g1.mut (g1.hh.free hD) (g1.ih.free hD), g1.ih.free hD, upd_same, .nil, rel_out (rel_wipe r1 _) n0 (g1.ih.free hD) far⟩, ?_⟩
  rintro i m H' ⟨rfl, hin, I', acc, s1, gg, nD, hacc, hda, r'⟩
  by_cases hlt : i < xs.length
  · have hx : xs[i]? = some xs[i] := List.getElem?_eq_getElem _
    have hd : (xs.map enc)[i]? = some (enc xs[i]) := by rw [List.getElem?_map, hx]; rfl
    obtain ⟨go, yl⟩ := hJ.1 i _ hd I' H' s1 r'.ih
    refine .inr ⟨go, fun H2 => ∃ I2 acc, Same I1 I2 ∧ Grow I H I2 H2 ∧ I2 D = none ∧ H2 D = some (.lst acc) ∧ DpAll X.K I2 acc (((xs.take (i + 1)).filter pr).map f) ∧ Rel X.K I0 H0 (wipeA A (own.map (·.2))) (wipe σ (own.map (·.2))) I2 H2,
      fun H2 ⟨I2, acc2, z⟩ => ⟨xs.length - (i + 1), by omega, rfl, hlt, I2, acc2, z⟩, fun v H3 hy => ?_⟩
    obtain ⟨I3, g3, hv⟩ := yl v H3 hy
    obtain ⟨A1, hU, hT, hE⟩ := hb xs[i] (List.getElem_mem _)
    have r3 := r'.grow g3
    refine hw.run v σ H3 _ (ht.run I0 H0 _ I3 H3 _ _ A1 v hU r3 hv _ fun σ2 r2 => ?_)
    have tk : ((xs.take (i + 1)).filter pr).map f = ((xs.take i).filter pr).map f ++ (if pr xs[i] then [f xs[i]] else []) := by
      rw [List.take_add_one, hx, List.filter_append, List.map_append]
      congr 1
      cases hp : pr xs[i] <;> simp [hp]
    have nD3 := g3.nw D _ hacc nD
    have fin : ∀ I4 H4, Grow I3 H3 I4 H4 → (if pr xs[i] = true then te σ2 H4 fun y H5 => ∃ acc, H5 D = some (.lst acc) ∧ acc.length < sizeLine ∧ ∃ I2 acc', Same I1 I2 ∧ Grow I H I2 (upd H5 D (.lst (acc ++ [y]))) ∧ I2 D = none ∧ (upd H5 D (.lst (acc ++ [y]))) D = some (.lst acc') ∧ DpAll X.K I2 acc' (((xs.take (i + 1)).filter pr).map f) ∧ Rel X.K I0 H0 (wipeA A (own.map (·.2))) (wipe σ (own.map (·.2))) I2 (upd H5 D (.lst (acc ++ [y])))
        else ∃ I2 acc, Same I1 I2 ∧ Grow I H I2 H4 ∧ I2 D = none ∧ H4 D = some (.lst acc) ∧ DpAll X.K I2 acc (((xs.take (i + 1)).filter pr).map f) ∧ Rel X.K I0 H0 (wipeA A (own.map (·.2))) (wipe σ (own.map (·.2))) I2 H4) := fun I4 H4 g4 => by
      have nD4 := g4.nw D _ (g3.hh _ _ hacc) nD3
      cases hp : pr xs[i] with
      | true =>
        rw [if_pos rfl]
        intro s5 H5' C5 cl5 fp5
        refine hE hp s5 H5' C5 cl5 fp5 I0 H0 σ2 I4 H4 (r2.grow g4) _ fun y I5 H5 g5 hy => ?_
        have nD5 := g5.nw D _ (g4.hh _ _ (g3.hh _ _ hacc)) nD4
        have g35 := (g3.trans g4).trans g5
        refine ⟨acc, g35.hh _ _ hacc, ?_, I5, acc ++ [y], s1.trans g35.ii, (gg.trans g35).mut (g1.hh.free hD) nD5, nD5, upd_same, ?_, ?_⟩
        · have e1 := dpAll_len hda
          rw [List.length_map] at e1
          have e2 := List.length_filter_le pr (xs.take i)
          rw [List.length_take] at e2
          omega
        · rw [tk, hp, if_pos rfl]
          exact dpAll_append (dpAll_mono g35.ii hda) (dpAll_one hy)
        · exact rel_out (r'.grow g35) n0 nD5 far
      | false =>
        rw [if_neg Bool.false_ne_true]
        have g34 := g3.trans g4
        refine ⟨I4, acc, s1.trans g34.ii, gg.trans g34, nD4, g34.hh _ _ hacc, ?_, r'.grow g34⟩
        rw [tk, hp, if_neg Bool.false_ne_true, List.append_nil]
        exact dpAll_mono g34.ii hda
    cases ifs with
    | nil =>
      have hT' : pr xs[i] = true := by have hT2 := hT; simp only [EtB] at hT2; exact hT2
      have z := fin I3 H3 (.refl r2.ih)
      rw [if_pos hT'] at z
      exact (show ∀ (k : Bool → Hp → Prop), k true H3 → tt σ2 H3 k from fun k h => h) _ (by
        dsimp only
        rw [if_pos rfl]
        exact z)
    | cons c r =>
      cases r with
      | cons c2 r => simp at hl
      | nil =>
        intro s5 H5' C5 cl5 fp5
        exact hT s5 H5' C5 cl5 fp5 I0 H0 σ2 I3 H3 r2 _ fun I4 H4 g4 => fin I4 H4 g4
  · have ein : i = xs.length := by omega
    subst ein
    refine .inl ⟨?_, ?_⟩
    · have z := hJ.2 I' H' s1 r'.ih
      rw [List.length_map] at z
      exact z
    · rw [List.take_length] at hda
      exact q _ I' H' gg ⟨D, .lst acc, rfl, g1.hh.free hD, nD, hacc, hda⟩
theorem ev_lc {α : Type} {elt tg iter : Expr} {ifs : List Expr} {scope : Scope} {own : List (Str × Nat)} {g : TG} {U : List C → PyData → List C → Prop} {src : List PyData} (xs : List α) (enc : α → PyData) (pr : α → Bool) (f : α → PyData)
    (hc : X.calm = true) (hN : X.N.Nodup) (hi : EvI X A tg iter src) (hsrc : src = xs.map enc) (ok : BlkOk X.N X.env.scope scope own)
    (hg : ∀ (s : Shared) (H : Hp) (C : Addr) (cl : List (Str × Addr)) (fp : List Addr), PG (X.blk s H scope (compEnvC scope cl C X.env) fp) tg g) (ht : TgOk X.K g U) (hw : TgW g (own.map (·.2)))
    (hl : ifs.length ≤ 1) (hz : xs.length < sizeLine)
    (hb : ∀ x, x ∈ xs → ∃ A1, U (wipeA A (own.map (·.2))) (enc x) A1 ∧ EtB X scope A1 ifs (pr x) ∧ (pr x = true → EvB X scope A1 elt (f x)))
    (hs : ∀ x, foldedSetIterable iter X.env x = pure x := by intro _; rfl) : Ev X A (.ListComp elt [⟨tg, iter, ifs, 0⟩] scope pos) (.own (.lst ((xs.filter pr).map f))) := fun I0 H0 σ I H rl Q q => by
  obtain ⟨t, hp, _, h⟩ := lc_both xs enc pr f hc hN hi hsrc ok hg ht hw hl hz hb hs
  exact wx_of hp (h I0 H0 σ I H rl Q q)
theorem s1_setLc {α : Type} {elt tg iter : Expr} {ifs : List Expr} {scope : Scope} {own : List (Str × Nat)} {g : TG} {U : List C → PyData → List C → Prop} {src : List PyData} (xs : List α) (enc : α → PyData) (pr : α → Bool) (f : α → PyData)
    (hc : X.calm = true) (hN : X.N.Nodup) (hi : EvI X A tg iter src) (hsrc : src = xs.map enc) (ok : BlkOk X.N X.env.scope scope own)
    (hg : ∀ (s : Shared) (H : Hp) (C : Addr) (cl : List (Str × Addr)) (fp : List Addr), PG (X.blk s H scope (compEnvC scope cl C X.env) fp) tg g) (ht : TgOk X.K g U) (hw : TgW g (own.map (·.2)))
    (hl : ifs.length ≤ 1) (hz : xs.length < sizeLine)
    (hb : ∀ x, x ∈ xs → ∃ A1, U (wipeA A (own.map (·.2))) (enc x) A1 ∧ EtB X scope A1 ifs (pr x) ∧ (pr x = true → EvB X scope A1 elt (f x)))
    (hs : ∀ x, foldedSetIterable iter X.env x = pure x := by intro _; rfl)
    {i : Nat} {y : Str} {py spos : Pos} (h1 : X.N[i]? = some y) (h2 : X.env.scope.names.lookup y = some .local) (h3 : swapsWith (.ListComp elt [⟨tg, iter, ifs, 0⟩] scope pos) (some (.Name y py)) spos.line X.env = pure true) (hj : A[i]?.isSome = true) :
    S1 X A (.Assign [.Name y py] (.ListComp elt [⟨tg, iter, ifs, 0⟩] scope pos) spos) (.nx (A.set i (.own (.lst ((xs.filter pr).map f))))) := fun I0 H0 σ I H rl D q => by
  obtain ⟨t, _, hp, h⟩ := lc_both (pos := pos) (elt := elt) xs enc pr f hc hN hi hsrc ok hg ht hw hl hz hb hs
  exact ws_of (hp i y py spos h1 h2 h3) (h I0 H0 σ I H rl _ fun v I1 H1 g hv => q _ I1 H1 g.ii (rel_put rl g hv (lt_of_some hj)))
end
end LR

set_option Elab.async false
set_option linter.all false
set_option maxRecDepth 100000
set_option maxHeartbeats 4000000
/-! The layer LR, part e: raise, the rule of a def. -/
namespace LR
open PySem PySem.Spec PyProof.Rows L2

/-- an exception class of the text, right under others of it or ValueError -/
structure XC (K : PySem.W.Frag) (mg : Str → Option Value) (x : Str) : Prop where
  ex : ∃ c, mg x = some (.ref c) ∧ PySem.W.excIn K c [.type "ValueError", .type "Exception", .type "BaseException", .type "object"] "ValueError.__new__" = true ∧ PySem.W.keepIn K (.ref c) = true ∧
    PySem.W.subIn K (.ref c) (.type "BaseException") = some true ∧ PySem.W.typeIn K (.ref c) = some (.type "type")
section
variable {X : Cx} {A : List C} {pos p p2 : Pos} {x m : Str}
theorem s1_raise {j} (hc : X.calm = true) (F : XC X.K X.mg x) (hg : Gl X x) (hs : X.stack = X.env :: X.outer) (hf : X.env.frame = some X.env.locals) (hdb : (x == ("__debug__" : Str)) = false := by decide) :
    S1 X A (.Raise (some (.Call (.Name x p) [.Constant (.str m) j p2] [] pos)) none pos') (.ex x A) := fun I0 H0 σ I H rl D f => by
  obtain ⟨W, tk, f⟩ := f
  obtain ⟨c, gC, q, kC, b, t⟩ := F.ex
  exact ws_of (ps_raise hc tk (pmk_own PySem.F.excBase_ValueError q gC kC (raises_own b t) hg hdb)) (f σ I H (Same.refl _) rl c gC)
end
/-- the state of the names at a def's begin -/
def A0 (N : List Str) (ds : List PyData) : List C := ds.map .dat ++ List.replicate (N.length - ds.length) .un
def SmR (X : Cx) (A : List C) (st : List Stmt) : Res → Prop
  | .ok c => Sm X A st (.rt c)
  | .ex x => ∃ A', Sm X A st (.ex x A')
section
variable {P : Program} {w : World} {K : PySem.W.Frag} {mg : Str → Option Value} {base : Heap}
theorem rel_start {N : List Str} {vs : List V} {ds : List PyData} {I H : Hp} (s : Same I H) (h : DpAll K I vs ds) : Rel K I H (A0 N ds) (start N vs) I H where
  gr := .refl s
  len := by unfold A0 L2.start; rw [List.length_append, List.length_append, List.length_map, List.length_map, List.length_replicate, List.length_replicate, dpAll_len h]
  cell := fun i c hc => by
    unfold A0 at hc
    by_cases hi : i < ds.length
    · rw [List.getElem?_append_left (by simpa using hi), List.getElem?_map, List.getElem?_eq_getElem hi] at hc
      cases hc
      obtain ⟨v, h1, h2⟩ := dpAll_get h (List.getElem?_eq_getElem hi)
      refine ⟨v, ?_, h2⟩
      unfold L2.start
      rw [List.getElem?_append_left (by rw [List.length_map, dpAll_len h]; exact hi), List.getElem?_map, h1]
      rfl
    · rw [List.getElem?_append_right (by simpa using hi), List.getElem?_replicate] at hc
      split at hc
      · cases hc; trivial
      · cases hc
  apart := fun i j p _ o _ _ => by
    unfold A0 at o
    by_cases hi : i < ds.length
    · rw [List.getElem?_append_left (by simpa using hi), List.getElem?_map, List.getElem?_eq_getElem hi] at o
      exact o.elim
    · rw [List.getElem?_append_right (by simpa using hi), List.getElem?_replicate] at o
      split at o
      · exact o.elim
      · exact o.elim
theorem fn_ok {x qual : Str} {st : Stmt} {f : Addr} {fd : FuncData} {N ps : List Str} {k : Nat} {R : List PyData → Res → Prop} (F : Fun K x qual st f fd) (hm : mg x = some (.ref f)) (b : Binds K fd ps []) (S : FnScope N ps (defScope st)) (hR : ∀ ds r, R ds r → ds.length = ps.length)
    (hbody : ∀ (cdv : Value) (A : Around) (outer : List Env) (s : Shared) (H : Hp) (E : XK), Room k (A.deeper (envOfC qual (defScope st) s.heap.objs.size f cdv)) → ∀ ds r, R ds r →
      SmR (cxOf (L2.CX P w) P w K mg base N qual (defScope st) f cdv A outer s H E) (A0 N ds) (defBody st) r) : Fn P w K mg base (k + 1) x ps R := by
  have hlk : ∃ (oc : Value) (od : Option Addr) (osl : Array (Option Value)), K.lookup f = some ⟨oc, od, .func fd, osl⟩ := by
    obtain ⟨oc, od, _, _, _, _, _, _, osl, _, h, _⟩ := F.ex
    exact ⟨oc, od, osl, h⟩
  refine ⟨f, fd, F.okX S (fun vs H Q E ⟨I, ds, r, _, hd, hr, _⟩ => by rw [dpAll_len hd, hR ds r hr]) (fun cdv A outer s H vs Q E hr ⟨I, ds, r, si, hd, h, q⟩ => ?_), hm, F.kp, b, hlk⟩
  refine ⟨_, wss_pss, ?_⟩
  have z := hbody cdv A outer s H E hr ds r h
  cases r with
  | ok c => exact z I H (start N vs) I H (rel_start si hd) _ fun v I' H' _ g hv => q v I' H' g hv
  | ex y =>
    obtain ⟨A', z⟩ := z
    exact z I H (start N vs) I H (rel_start si hd) _ ⟨_, takes_of rfl rfl rfl rfl, fun σ' I' H' _ r c hc => q I' H' r.gr c hc⟩
end
end LR

set_option Elab.async false
set_option linter.all false
set_option maxRecDepth 100000
set_option maxHeartbeats 4000000
/-! The layer LR, part f: rules by the shape of the data, encodings. -/
namespace LR
open PySem PySem.Spec PyProof.Rows L2

abbrev tI (xs : List Int) : PyData := .tuple (xs.map .int)
abbrev tT (t : List (List Int)) : PyData := .tuple (t.map tI)
abbrev lT (t : List (List Int)) : PyData := .list (t.map tI)
/-! ### shaped data, equality -/
theorem lay_ints : ∀ xs : List Int, PyData.canLayAll0 (xs.map PyData.int) = true
  | [] => by simp [PyData.canLayAll0]
  | x :: r => by rw [List.map_cons]; simp only [PyData.canLayAll0, PyData.canLay0, Bool.true_and]; exact lay_ints r
theorem dep_ints : ∀ xs : List Int, PyData.depthAll (xs.map PyData.int) ≤ 1
  | [] => by simp [PyData.depthAll]
  | x :: r => by rw [List.map_cons]; simp only [PyData.depthAll, PyData.depth]; have := dep_ints r; omega

inductive BinD : Operator → PyData → PyData → C → Prop
  | add {i j : Int} : BinD .Add (.int i) (.int j) (.dat (.int (i + j)))
  | sub {i j : Int} : BinD .Sub (.int i) (.int j) (.dat (.int (i - j)))
  | mul {i j : Int} (h : CMul i j) : BinD .Mult (.int i) (.int j) (.dat (.int (i * j)))
  | mod {i j : Int} (h : 0 < j) : BinD .Mod (.int i) (.int j) (.dat (.int (i % j)))
  | div {i j : Int} (h : 0 < j) (h2 : j < 1073741824) : BinD .FloorDiv (.int i) (.int j) (.dat (.int (i / j)))
  | pow {i j : Int} (h : CPow i j) : BinD .Pow (.int i) (.int j) (.dat (.int (i ^ j.toNat)))
  | cat {ds es : List PyData} (h : ds.length + es.length ≤ sizeLine) : BinD .Add (.tuple ds) (.tuple es) (.dat (.tuple (ds ++ es)))
  | catI {xs ys : List Int} (h : xs.length + ys.length ≤ sizeLine) : BinD .Add (tI xs) (tI ys) (.dat (tI (xs ++ ys)))
  | catI1 {xs : List Int} {i : Int} (h : xs.length + 1 ≤ sizeLine) : BinD .Add (tI xs) (.tuple [.int i]) (.dat (tI (xs ++ [i])))
  | cat1I {xs : List Int} {i : Int} (h : xs.length + 1 ≤ sizeLine) : BinD .Add (.tuple [.int i]) (tI xs) (.dat (tI (i :: xs)))
  | catT {xs ys : List (List Int)} (h : xs.length + ys.length ≤ sizeLine) : BinD .Add (tT xs) (tT ys) (.dat (tT (xs ++ ys)))
  | catT1 {xs : List (List Int)} {i : List Int} (h : xs.length + 1 ≤ sizeLine) : BinD .Add (tT xs) (.tuple [tI i]) (.dat (tT (xs ++ [i])))
  | str {x y : Str} (h : x.length + y.length ≤ sizeLine) : BinD .Add (.str x) (.str y) (.dat (.str (x ++ y)))
inductive CmpD : CmpOp → PyData → PyData → Bool → Prop
  | lt {i j : Int} : CmpD .Lt (.int i) (.int j) (decide (i < j))
  | le {i j : Int} : CmpD .LtE (.int i) (.int j) (decide (i ≤ j))
  | gt {i j : Int} : CmpD .Gt (.int i) (.int j) (decide (j < i))
  | ge {i j : Int} : CmpD .GtE (.int i) (.int j) (decide (j ≤ i))
  | eqI {i j : Int} : CmpD .Eq (.int i) (.int j) (decide (i = j))
  | neI {i j : Int} : CmpD .NotEq (.int i) (.int j) (!decide (i = j))
  | eqS {i j : Str} : CmpD .Eq (.str i) (.str j) (decide (i = j))
  | neS {i j : Str} : CmpD .NotEq (.str i) (.str j) (!decide (i = j))
inductive SeqD : PyData → Bool → List PyData → Prop
  | tup {ds : List PyData} : SeqD (.tuple ds) false ds
  | lst {ds : List PyData} : SeqD (.list ds) true ds
inductive IxD : List PyData → Int → PyData → Prop
  | nIn {xs : List Int} {i : Nat} (h2 : i < xs.length) : IxD (xs.map .int) (i : Int) (.int (xs.getD i 0))
  | nTn {xs : List (List Int)} {i : Nat} (h2 : i < xs.length) : IxD (xs.map tI) (i : Int) (tI (xs.getD i []))
  | nTTn {xs : List (List (List Int))} {i : Nat} (h2 : i < xs.length) : IxD (xs.map tT) (i : Int) (tT (xs.getD i []))
  | nTT {xs : List (List (List Int))} {i : Int} (h : 0 ≤ i) (h2 : i < xs.length) : IxD (xs.map tT) i (tT (xs.getD i.toNat []))
  | nI {xs : List Int} {i : Int} (h : 0 ≤ i) (h2 : i < xs.length) : IxD (xs.map .int) i (.int (xs.getD i.toNat 0))
  | nS {xs : List Str} {i : Int} (h : 0 ≤ i) (h2 : i < xs.length) : IxD (xs.map .str) i (.str (xs.getD i.toNat ⟨#[]⟩))
  | nT {xs : List (List Int)} {i : Int} (h : 0 ≤ i) (h2 : i < xs.length) : IxD (xs.map tI) i (tI (xs.getD i.toNat []))
  | nL2 {a b i : Int} (h : 0 ≤ i) (h2 : i < 2) : IxD [.int a, .int b] i (.int ([a, b].getD i.toNat 0))
  | nL3 {a b c i : Int} (h : 0 ≤ i) (h2 : i < 3) : IxD [.int a, .int b, .int c] i (.int ([a, b, c].getD i.toNat 0))
  | nL4 {a b c d i : Int} (h : 0 ≤ i) (h2 : i < 4) : IxD [.int a, .int b, .int c, .int d] i (.int ([a, b, c, d].getD i.toNat 0))
  | lit {ds : List PyData} {i : Int} {d : PyData} (h : atI ds i = some d) : IxD ds i d
section
variable {X : Cx} {e a b : Expr} {es : List Expr} {A : List C} {pos p p2 : Pos} {x : Str}
theorem ev_bin {op : Operator} {d1 d2 : PyData} {c : C} (h1 : Ev X A a (.dat d1)) (h2 : Ev X A b (.dat d2)) (h : BinD op d1 d2 c) : Ev X A (.BinOp a op b pos) c := by
  cases h with
  | add => exact ev_add h1 h2
  | sub => exact ev_sub h1 h2
  | mul h => exact ev_mul h1 h2 h
  | mod h => exact ev_mod h1 h2 h
  | div h h' => exact ev_div h1 h2 h h'
  | pow h => exact ev_pow h1 h2 h
  | cat h => exact ev_catT h1 h2 h
  | catI h => exact ev_eq (ev_catT h1 h2 (by simpa using h)) (by simp)
  | catI1 h => exact ev_eq (ev_catT h1 h2 (by simpa using h)) (by simp)
  | cat1I h => exact ev_eq (ev_catT h1 h2 (by simp; omega)) (by simp)
  | catT h => exact ev_eq (ev_catT h1 h2 (by simpa using h)) (by simp)
  | catT1 h => exact ev_eq (ev_catT h1 h2 (by simpa using h)) (by simp)
  | str h => exact ev_op op_add_str h1 h2 (bin_val fun I H v w s h1 h2 Q q => ⟨_, _, dp_str h1, dp_str h2, h, q _ (.str _)⟩)
theorem ev_cmpD {op : CmpOp} {d1 d2 : PyData} {v : Bool} (h1 : Ev X A a (.dat d1)) (h2 : Ev X A b (.dat d2)) (h : CmpD op d1 d2 v) : Ev X A (.Compare a [op] [b] pos) (.dat (.bool v)) := by
  cases h with
  | lt => exact ev_lt h1 h2
  | le => exact ev_le h1 h2
  | gt => exact ev_gt h1 h2
  | ge => exact ev_ge h1 h2
  | eqI => exact ev_eqI h1 h2
  | neI => exact ev_neI h1 h2
  | eqS => exact ev_eqS h1 h2
  | neS => exact ev_neS h1 h2
/-- a comparison by data -/
def CmpR (X : Cx) (op : CmpOp) (b : Expr) (d1 d2 : PyData) (v : Bool) : Prop := ∃ r : R2, OpR X (compareOp op) r ∧ Bin X r d1 d2 (.dat (.bool v)) ∧ behindInMarks op b = false
theorem cmpR_D {op : CmpOp} {d1 d2 : PyData} {v : Bool} (h : CmpD op d1 d2 v) : CmpR X op b d1 d2 v := by
  cases h with
  | lt => exact ⟨_, op_lt, bI0 fun _ => .bl _, nomark _⟩
  | le => exact ⟨_, op_le, bI0 fun _ => .bl _, nomark _⟩
  | gt => exact ⟨_, op_gt, bI0 fun _ => .bl _, nomark _⟩
  | ge => exact ⟨_, op_ge, bI0 fun _ => .bl _, nomark _⟩
  | eqI => exact ⟨_, op_eq, bin_val fun I H v w s h1 h2 Q q => by rw [dp_int h1, dp_int h2]; exact ⟨rfl, by rw [decV]; exact q _ (.bl _)⟩, nomark _⟩
  | neI => exact ⟨_, op_ne, bin_val fun I H v w s h1 h2 Q q => by rw [dp_int h1, dp_int h2]; exact ⟨rfl, by rw [decV]; exact q _ (.bl _)⟩, nomark _⟩
  | eqS => exact ⟨_, op_eq, bin_val fun I H v w s h1 h2 Q q => by rw [dp_str h1, dp_str h2]; exact ⟨rfl, by rw [decS]; exact q _ (.bl _)⟩, nomark _⟩
  | neS => exact ⟨_, op_ne, bin_val fun I H v w s h1 h2 Q q => by rw [dp_str h1, dp_str h2]; exact ⟨rfl, by rw [decS]; exact q _ (.bl _)⟩, nomark _⟩
theorem cmpR_eqD {d1 d2 : PyData} {k : Nat} (hr : Room k X.A) (s1 : SeqAt.shaped d1 = true) (s2 : SeqAt.shaped d2 = true) : CmpR X .Eq b d1 d2 (PyData.eqv d1 d2) :=
  ⟨_, op_eqD hr.units, bin_val fun I H v w s h1 h2 Q q => ⟨d1, d2, (dp_mono s h1).kit, (dp_mono s h2).kit, s1, s2, q _ (.bl _)⟩, nomark _⟩
theorem cmpR_neD {d1 d2 : PyData} {k : Nat} (hr : Room k X.A) (s1 : SeqAt.shaped d1 = true) (s2 : SeqAt.shaped d2 = true) : CmpR X .NotEq b d1 d2 (!PyData.eqv d1 d2) :=
  ⟨_, op_neD hr.units, bin_val fun I H v w s h1 h2 Q q => ⟨d1, d2, (dp_mono s h1).kit, (dp_mono s h2).kit, s1, s2, q _ (.bl _)⟩, nomark _⟩
theorem CmpR.eq {op : CmpOp} {d1 d2 : PyData} {v u : Bool} (h : CmpR X op b d1 d2 v) (e : v = u) : CmpR X op b d1 d2 u := e ▸ h
theorem ev_cmpR {op : CmpOp} {d1 d2 : PyData} {v : Bool} (h1 : Ev X A a (.dat d1)) (h2 : Ev X A b (.dat d2)) (h : CmpR X op b d1 d2 v) : Ev X A (.Compare a [op] [b] pos) (.dat (.bool v)) := by
  obtain ⟨r, ho, hb, hm⟩ := h
  exact ev_cmp ho h1 h2 hb hm
theorem et_cmpR {op : CmpOp} {d1 d2 : PyData} {v : Bool} (h1 : Ev X A a (.dat d1)) (h2 : Ev X A b (.dat d2)) (h : CmpR X op b d1 d2 v) : Et X A (.Compare a [op] [b] pos) v := by
  obtain ⟨r, ho, hb, hm⟩ := h
  exact fun I0 H0 σ I H rl Q q => wt_of (pt_cmpR ho wx_pe wx_pe hm) (bin_run h1 h2 hb rl fun u I1 H1 g hu => ⟨v, dp_bool hu, q I1 H1 g⟩)
theorem evs_dat {d : PyData} {k : Bool} {ds : List PyData} (h : Ev X A e (.dat d)) (hs : SeqD d k ds) : EvS X A e k ds := by
  cases hs with
  | tup => exact evs_tup h
  | lst => exact evs_lst h
theorem ev_atD {k : Bool} {ds : List PyData} {i : Int} {d : PyData} (h1 : EvS X A a k ds) (h2 : Ev X A b (.dat (.int i))) (h : IxD ds i d) (hs : PlainIx b) : Ev X A (.Subscript a b pos) (.dat d) := by
  refine ev_at h1 h2 ?_ hs
  have key : ∀ {α : Type} (f : α → PyData) (xs : List α) (z : α), 0 ≤ i → i < xs.length → atI (xs.map f) i = some (f (xs.getD i.toNat z)) := fun f xs z h0 h1 => by
    have e1 : ((i.toNat : Nat) : Int) = i := Int.toNat_of_nonneg h0
    have h2 : i.toNat < xs.length := by omega
    rw [← e1]
    refine atI_nat ?_
    rw [List.getElem?_map, e1, List.getElem?_eq_getElem h2, List.getD_eq_getElem?_getD, List.getElem?_eq_getElem h2]
    rfl
  cases h with
  | nIn h1 => exact key .int _ 0 (by omega) (by omega)
  | nTn h1 => exact key tI _ [] (by omega) (by omega)
  | nTTn h1 => exact key tT _ [] (by omega) (by omega)
  | nTT h0 h1 => exact key tT _ [] h0 h1
  | nI h0 h1 => exact key .int _ 0 h0 h1
  | nS h0 h1 => exact key .str _ _ h0 h1
  | nT h0 h1 => exact key tI _ [] h0 h1
  | nL2 h0 h1 => exact key .int [_, _] 0 h0 h1
  | nL3 h0 h1 => exact key .int [_, _, _] 0 h0 h1
  | nL4 h0 h1 => exact key .int [_, _, _, _] 0 h0 h1
  | lit h => exact h
theorem s1_retE {c c' : C} (he : Ev X A e c) (h : c = c') : S1 X A (.Return (some e) pos) (.rt c') := h ▸ s1_ret he
theorem ei_dat {tg : Expr} {d : PyData} {k : Bool} {ds : List PyData} (h : Ev X A e (.dat d)) (hs : SeqD d k ds) : EvI X A tg e ds := by
  cases hs with
  | tup => exact ei_tup h
  | lst => exact ei_list h
/-- not a < b < c -/
theorem ev_ifExp {v : Bool} {c : Expr} {o : C} (h : Et X A c v) (h1 : v = true → Ev X A a o) (h2 : v = false → Ev X A b o) : Ev X A (.IfExp c a b pos) o := fun I0 H0 σ I H rl Q q =>
  wx_of (pe_ifExp wt_pe wx_pe wx_pe) (h I0 H0 σ I H rl _ fun I1 H1 g => by
    cases v with
    | true => exact iteT (h1 rfl I0 H0 σ I1 H1 (rl.grow g) Q fun y I2 H2 g2 hy => q y I2 H2 (g.trans g2) (hy.back g.hh))
    | false => exact iteF (h2 rfl I0 H0 σ I1 H1 (rl.grow g) Q fun y I2 H2 g2 hy => q y I2 H2 (g.trans g2) (hy.back g.hh)))
/-- a < b < c and the like -/
theorem ev_chain {o1 o2 : CmpOp} {i j k : Int} {v u : Bool} {r1 r2 : R2} {c : Expr} (h1 : Ev X A a (.dat (.int i))) (h2 : Ev X A b (.dat (.int j))) (h3 : Ev X A c (.dat (.int k))) (d1 : OpR X (compareOp o1) r1) (d2 : OpR X (compareOp o2) r2)
    (b1 : Bin X r1 (.int i) (.int j) (.dat (.bool v))) (b2 : Bin X r2 (.int j) (.int k) (.dat (.bool u))) (hm : lastMarks [o1, o2] [b, c] = false) : Ev X A (.Compare a [o1, o2] [b, c] pos) (.dat (.bool (v && u))) := fun I0 H0 σ I H rl Q q => by
  refine wx_of (pe_chain d1 d2 wx_pe wx_pe wx_pe hm) ?_
  refine h1 I0 H0 σ I H rl _ fun x1 I1 H1 g1 hx => h2 I0 H0 σ I1 H1 (rl.grow g1) _ fun x2 I2 H2 g2 hy => b1 I2 H2 x1 x2 g2.ih (dp_mono g2.ii hx) hy _ fun z I3 H3 g3 hz => ?_
  refine ⟨v, dp_bool hz, ?_⟩
  have g := (g1.trans g2).trans g3
  cases v with
  | true => exact iteT (h3 I0 H0 σ I3 H3 (rl.grow g) _ fun x3 I4 H4 g4 hw => b2 I4 H4 x2 x3 g4.ih (dp_mono (g3.trans g4).ii hy) hw _ fun y I5 H5 g5 hy' => q y I5 H5 ((g.trans g4).trans g5) hy')
  | false => exact iteF (q _ I3 H3 g (Dp.bl false))
theorem et_chain {o1 o2 : CmpOp} {i j k : Int} {v u : Bool} {c : Expr} (h1 : Ev X A a (.dat (.int i))) (h2 : Ev X A b (.dat (.int j))) (h3 : Ev X A c (.dat (.int k))) (d1 : CmpR X o1 b (.int i) (.int j) v) (d2 : CmpR X o2 c (.int j) (.int k) u) (hm : lastMarks [o1, o2] [b, c] = false := by with_unfolding_all rfl) :
    Et X A (.Compare a [o1, o2] [b, c] pos) (v && u) := fun I0 H0 σ I H rl Q q => by
  obtain ⟨r1, p1, b1, _⟩ := d1
  obtain ⟨r2, p2, b2, _⟩ := d2
  refine wt_of (pt_chain p1 p2 wx_pe wx_pe wx_pe hm) ?_
  refine h1 I0 H0 σ I H rl _ fun x1 I1 H1 g1 hx => h2 I0 H0 σ I1 H1 (rl.grow g1) _ fun x2 I2 H2 g2 hy => b1 I2 H2 x1 x2 g2.ih (dp_mono g2.ii hx) hy _ fun z I3 H3 g3 hz => ?_
  refine ⟨v, dp_bool hz, ?_⟩
  have g := (g1.trans g2).trans g3
  cases v with
  | true => exact iteT (h3 I0 H0 σ I3 H3 (rl.grow g) _ fun x3 I4 H4 g4 hw => b2 I4 H4 x2 x3 g4.ih (dp_mono (g3.trans g4).ii hy) hw _ fun y I5 H5 g5 hy' => ⟨u, dp_bool hy', q I5 H5 ((g.trans g4).trans g5)⟩)
  | false => exact iteF ⟨false, rfl, q I3 H3 g⟩
theorem ev_chainR {o1 o2 : CmpOp} {i j k : Int} {v u : Bool} {c : Expr} (h1 : Ev X A a (.dat (.int i))) (h2 : Ev X A b (.dat (.int j))) (h3 : Ev X A c (.dat (.int k))) (d1 : CmpR X o1 b (.int i) (.int j) v) (d2 : CmpR X o2 c (.int j) (.int k) u) (hm : lastMarks [o1, o2] [b, c] = false := by with_unfolding_all rfl) :
    Ev X A (.Compare a [o1, o2] [b, c] pos) (.dat (.bool (v && u))) := by
  obtain ⟨r1, p1, b1, _⟩ := d1
  obtain ⟨r2, p2, b2, _⟩ := d2
  exact ev_chain h1 h2 h3 p1 p2 b1 b2 hm
end
end LR

set_option Elab.async false
set_option linter.all false
set_option maxRecDepth 100000
set_option maxHeartbeats 4000000
/-! The layer LR, part g: the rules over a context of which the names and the scope are told. -/
namespace LR
open PySem PySem.Spec PyProof.Rows L2

/-- what is told of a context -/
structure XF (P : Program) (w : World) (K : PySem.W.Frag) (mg : Str → Option Value) (base : Heap) (N : List Str) (sc : Scope) (k : Nat) (X : Cx) : Prop where
  eP : X.prog = P
  eW : X.w = w
  eK : X.K = K
  eM : X.mg = mg
  eB : X.base = base
  eN : X.N = N
  eS : X.env.scope = sc
  calm : X.calm = true
  nd : N.Nodup
  room : Room k X.A
  pass : PassesOwn (model X.prog X.w) X.A X.env X.xe
/-- .. of a def's own -/
structure XT (X : Cx) : Prop where
  stack : X.stack = X.env :: X.outer
  frame : X.env.frame = some X.env.locals
  fn : ∀ x, X.fn x = true
abbrev GlS (sc : Scope) (x : Str) : Prop := sc.names.lookup x = some .globalImplicit
instance {sc : Scope} {x : Str} : Decidable (Vis sc x) := by unfold Vis; infer_instance
instance {sc : Scope} {x : Str} : Decidable (L2.Loc sc x) := by unfold L2.Loc; infer_instance
section
variable {P : Program} {w : World} {K : PySem.W.Frag} {mg : Str → Option Value} {base : Heap} {N : List Str} {sc : Scope} {k : Nat}
variable {X : Cx} {e a b : Expr} {es : List Expr} {A : List C} {pos p p2 : Pos} {x : Str}
variable (hX : XF P w K mg base N sc k X)
include hX
theorem XF.gl (h : GlS sc x) : Gl X x := by unfold Gl Env.kindOf; rw [hX.eS]; exact h
theorem XF.vis (h : Vis sc x) : Vis X.env.scope x := by rw [hX.eS]; exact h
theorem XF.loc (h : L2.Loc sc x) : L2.Loc X.env.scope x := by rw [hX.eS]; exact h
theorem XF.ndX : X.N.Nodup := by rw [hX.eN]; exact hX.nd
theorem XF.fnX {j : Nat} {y : Str} {ps : List Str} {R : List PyData → Res → Prop} (G : Fn P w K mg base j y ps R) : Fn X.prog X.w X.K X.mg X.base j y ps R := by
  rw [hX.eP, hX.eW, hX.eK, hX.eM, hX.eB]; exact G
theorem nmF (i : Nat) {d : PyData} (hN : N[i]? = some x) (hA : A[i]? = some (.dat d)) (hv : Vis sc x) (hd : (x == ("__debug__" : Str)) = false) (hcd : (x == ("__classdict__" : Str)) = false) : Ev X A (.Name x pos) (.dat d) :=
  ev_name i (by rw [hX.eN]; exact hN) hA (hX.vis hv) hd hcd
theorem ownF (i : Nat) {ds : List PyData} (hN : N[i]? = some x) (hA : A[i]? = some (.own (.lst ds))) (hv : Vis sc x) (hd : (x == ("__debug__" : Str)) = false) (hcd : (x == ("__classdict__" : Str)) = false) : EvS X A (.Name x pos) true ds :=
  evs_own i (by rw [hX.eN]; exact hN) hA (hX.vis hv) hd hcd
theorem ownlF (i : Nat) {ds : List PyData} (hN : N[i]? = some x) (hA : A[i]? = some (.own (.lst ds))) (hv : Vis sc x) (hd : (x == ("__debug__" : Str)) = false) (hcd : (x == ("__classdict__" : Str)) = false) : EvL X A (.Name x pos) ds :=
  evl_own i (by rw [hX.eN]; exact hN) hA (hX.vis hv) hd hcd
theorem callF {j : Nat} {ps : List Str} {R : List PyData → Res → Prop} {ds : List PyData} {c : C} (G : Fn P w K mg base j x ps R) (hj : j ≤ k) (hg : GlS sc x) (ha : EvA X A (e :: es) ds) (h : R ds (.ok c)) (hdb : (x == ("__debug__" : Str)) = false)
    (he : starEach (e :: es) X.env = (false, eval e X.env) :: starEach es X.env := by rfl) (hpl : (backTo pos (starEach es X.env)).any (·.1) = false := by rfl) : Ev X A (.Call (.Name x p) (e :: es) [] pos) c :=
  ev_call (hX.fnX G) (hX.room.mono hj) (hX.gl hg) ha h hdb he hpl
theorem callXF {j : Nat} {ps : List Str} {R : List PyData → Res → Prop} {ds : List PyData} {y : Str} (G : Fn P w K mg base j x ps R) (hj : j ≤ k) (hg : GlS sc x) (ha : EvA X A (e :: es) ds) (h : R ds (.ex y)) (hdb : (x == ("__debug__" : Str)) = false)
    (he : starEach (e :: es) X.env = (false, eval e X.env) :: starEach es X.env := by rfl) (hpl : (backTo pos (starEach es X.env)).any (·.1) = false := by rfl) : EvX X A (.Call (.Name x p) (e :: es) [] pos) y :=
  evx_call (hX.fnX G) (hX.room.mono hj) (hX.gl hg) ha h hdb he hpl
theorem lenF {v : Bool} {ds : List PyData} (hg : GlS sc "len") (hm : mg "len" = none) (h : EvS X A e v ds) (hs : starEach (e :: []) X.env = (false, eval e X.env) :: starEach [] X.env := by rfl) : Ev X A (.Call (.Name "len" p) [e] [] pos) (.dat (.int ds.length)) :=
  ev_len (hX.gl hg) (by rw [hX.eM]; exact hm) h hs
theorem tupleF {ds : List PyData} (hg : GlS sc "tuple") (hm : mg "tuple" = none) (h : EvS X A e true ds) (hs : starEach (e :: []) X.env = (false, eval e X.env) :: starEach [] X.env := by rfl) : Ev X A (.Call (.Name "tuple" p) [e] [] pos) (.dat (.tuple ds)) :=
  ev_tuple (hX.gl hg) (by rw [hX.eM]; exact hm) h (hs := hs)
theorem tupleTF {ds : List PyData} (hg : GlS sc "tuple") (hm : mg "tuple" = none) (h : Ev X A e (.dat (.tuple ds))) (hs : starEach (e :: []) X.env = (false, eval e X.env) :: starEach [] X.env := by rfl) : Ev X A (.Call (.Name "tuple" p) [e] [] pos) (.dat (.tuple ds)) :=
  ev_tupleT (hX.gl hg) (by rw [hX.eM]; exact hm) h (hs := hs)
theorem listF {v : Bool} {ds : List PyData} (hg : GlS sc "list") (hm : mg "list" = none) (h : EvS X A e v ds) (hs : starEach (e :: []) X.env = (false, eval e X.env) :: starEach [] X.env := by rfl) : Ev X A (.Call (.Name "list" p) [e] [] pos) (.own (.lst ds)) :=
  ev_list (hX.gl hg) (by rw [hX.eM]; exact hm) h (hs := hs)
theorem intBF {v : Bool} (hg : GlS sc "int") (hm : mg "int" = none) (h : Ev X A e (.dat (.bool v))) (hs : starEach (e :: []) X.env = (false, eval e X.env) :: starEach [] X.env := by rfl) : Ev X A (.Call (.Name "int" p) [e] [] pos) (.dat (.int (if v then 1 else 0))) :=
  ev_intB (hX.gl hg) (by rw [hX.eM]; exact hm) h (hs := hs)
theorem max2F {i j : Int} (hg : GlS sc "max") (hm : mg "max" = none) (h : EvA X A [e, b] [.int i, .int j]) (hs : starEach (e :: [b]) X.env = (false, eval e X.env) :: starEach [b] X.env := by rfl) (hpl : (backTo pos (starEach [b] X.env)).any (·.1) = false := by rfl) :
    Ev X A (.Call (.Name "max" p) [e, b] [] pos) (.dat (.int (max i j))) := ev_max2 hX.calm (hX.gl hg) (by rw [hX.eM]; exact hm) h (hs := hs) (hpl := hpl)
theorem min2F {i j : Int} (hg : GlS sc "min") (hm : mg "min" = none) (h : EvA X A [e, b] [.int i, .int j]) (hs : starEach (e :: [b]) X.env = (false, eval e X.env) :: starEach [b] X.env := by rfl) (hpl : (backTo pos (starEach [b] X.env)).any (·.1) = false := by rfl) :
    Ev X A (.Call (.Name "min" p) [e, b] [] pos) (.dat (.int (min i j))) := ev_min2 hX.calm (hX.gl hg) (by rw [hX.eM]; exact hm) h (hs := hs) (hpl := hpl)
theorem sumF {ns : List Int} (hg : GlS sc "sum") (hm : mg "sum" = none) (h : EvS X A e true (ns.map PyData.int)) (hs : starEach (e :: []) X.env = (false, eval e X.env) :: starEach [] X.env := by rfl) : Ev X A (.Call (.Name "sum" p) [e] [] pos) (.dat (.int ns.sum)) :=
  ev_sum hX.calm (hX.gl hg) (by rw [hX.eM]; exact hm) h (hs := hs)
theorem anyF {bs : List Bool} (hg : GlS sc "any") (hm : mg "any" = none) (h : EvS X A e true (bs.map PyData.bool)) (hs : starEach (e :: []) X.env = (false, eval e X.env) :: starEach [] X.env := by rfl) : Ev X A (.Call (.Name "any" p) [e] [] pos) (.dat (.bool (bs.any id))) :=
  ev_any hX.calm (hX.gl hg) (by rw [hX.eM]; exact hm) h (hs := hs)
theorem allF {bs : List Bool} (hg : GlS sc "all") (hm : mg "all" = none) (h : EvS X A e true (bs.map PyData.bool)) (hs : starEach (e :: []) X.env = (false, eval e X.env) :: starEach [] X.env := by rfl) : Ev X A (.Call (.Name "all" p) [e] [] pos) (.dat (.bool (bs.all id))) :=
  ev_all hX.calm (hX.gl hg) (by rw [hX.eM]; exact hm) h (hs := hs)
theorem maxLF {ns : List Int} {m : Int} (hg : GlS sc "max") (hm : mg "max" = none) (h : EvS X A e true (ns.map PyData.int)) (h1 : m ∈ ns) (h2 : ∀ y ∈ ns, y ≤ m) (hs : starEach (e :: []) X.env = (false, eval e X.env) :: starEach [] X.env := by rfl) :
    Ev X A (.Call (.Name "max" p) [e] [] pos) (.dat (.int m)) := ev_maxL hX.calm (hX.gl hg) (by rw [hX.eM]; exact hm) h h1 h2 (hs := hs)
theorem minLF {ns : List Int} {m : Int} (hg : GlS sc "min") (hm : mg "min" = none) (h : EvS X A e true (ns.map PyData.int)) (h1 : m ∈ ns) (h2 : ∀ y ∈ ns, m ≤ y) (hs : starEach (e :: []) X.env = (false, eval e X.env) :: starEach [] X.env := by rfl) :
    Ev X A (.Call (.Name "min" p) [e] [] pos) (.dat (.int m)) := ev_minL hX.calm (hX.gl hg) (by rw [hX.eM]; exact hm) h h1 h2 (hs := hs)
theorem strIF {i : Int} (hg : GlS sc "str") (hm : mg "str" = none) (h : Ev X A e (.dat (.int i))) (hz : i.natAbs.log2 < 1920) (hs : starEach (e :: []) X.env = (false, eval e X.env) :: starEach [] X.env := by rfl) : Ev X A (.Call (.Name "str" p) [e] [] pos) (.dat (.str (toString i))) :=
  ev_strI (hX.gl hg) (by rw [hX.eM]; exact hm) h hz (hs := hs)
theorem isiF {T : String} {d : PyData} {r : Bool} (hg : GlS sc "isinstance") (hm : mg "isinstance" = none) (h1 : Ev X A e (.dat d)) (hgT : GlS sc (Str.ofString T)) (hmT : mg (Str.ofString T) = none) (hbT : bootBuiltins (Str.ofString T) = some (.type T)) (hk : kitB (tyD d) T = some r)
    (hn : Str.ofString T ≠ "__name__") (hdb : (Str.ofString T == ("__debug__" : Str)) = false) (hs : starEach (e :: [.Name (Str.ofString T) p2]) X.env = (false, eval e X.env) :: starEach [.Name (Str.ofString T) p2] X.env := by rfl) :
    Ev X A (.Call (.Name "isinstance" p) [e, .Name (Str.ofString T) p2] [] pos) (.dat (.bool r)) :=
  ev_isi (hX.gl hg) (by rw [hX.eM]; exact hm) h1 rfl (hX.gl hgT) (by rw [hX.eM]; exact hmT) hbT hk hn (hs := hs) (hdb := hdb)
theorem rangeF {tg : Expr} {n : Int} (hg : GlS sc "range") (hm : mg "range" = none) (h : Ev X A a (.dat (.int n))) (h1 : -1000000 ≤ n) (h2 : n ≤ 1000000) (hs : starEach (a :: []) X.env = (false, eval a X.env) :: starEach [] X.env := by rfl) :
    EvI X A tg (.Call (.Name "range" p) [a] [] pos) ((List.range n.toNat).map fun i : Nat => .int (i : Int)) := ei_range (hX.gl hg) (by rw [hX.eM]; exact hm) h h1 h2 hs
theorem range2F {tg : Expr} {lo hi : Int} (hg : GlS sc "range") (hm : mg "range" = none) (h : EvA X A [a, b] [.int lo, .int hi]) (h1 : -1000000 ≤ lo) (h2 : lo ≤ 1000000) (h3 : -1000000 ≤ hi) (h4 : hi ≤ 1000000)
    (hs : starEach [a, b] X.env = [(false, eval a X.env), (false, eval b X.env)] := by rfl) (hs2 : starEach [b] X.env = [(false, eval b X.env)] := by rfl) :
    EvI X A tg (.Call (.Name "range" p) [a, b] [] pos) ((List.range (hi - lo).toNat).map fun i : Nat => .int (lo + i)) := ei_range2 (hX.gl hg) (by rw [hX.eM]; exact hm) h h1 h2 h3 h4 hs hs2
theorem eqF {d1 d2 : PyData} (h1 : Ev X A a (.dat d1)) (h2 : Ev X A b (.dat d2)) (s1 : SeqAt.shaped d1 = true) (s2 : SeqAt.shaped d2 = true) : Ev X A (.Compare a [.Eq] [b] pos) (.dat (.bool (PyData.eqv d1 d2))) := ev_eqD hX.room h1 h2 s1 s2
theorem neF {d1 d2 : PyData} (h1 : Ev X A a (.dat d1)) (h2 : Ev X A b (.dat d2)) (s1 : SeqAt.shaped d1 = true) (s2 : SeqAt.shaped d2 = true) : Ev X A (.Compare a [.NotEq] [b] pos) (.dat (.bool (!PyData.eqv d1 d2))) := ev_neD hX.room h1 h2 s1 s2
theorem setF (hT : XT X) (j : Nat) {c : C} {pos' : Pos} (hN : N[j]? = some x) (hx : L2.Loc sc x) (he : Ev X A e c) (hj : A[j]?.isSome = true) (hs : swapsWith e (some (.Name x pos')) pos.line X.env = pure false := by rfl) : S1 X A (.Assign [.Name x pos'] e pos) (.nx (A.set j c)) :=
  s1_set j hX.ndX (by rw [hX.eN]; exact hN) (hX.loc hx) he hj rfl hs (.inl (hT.fn _))
theorem appF (j : Nat) {ds : List PyData} {d : PyData} {p3 p4 : Pos} (hN : N[j]? = some x) (hA : A[j]? = some (.own (.lst ds))) (hv : Vis sc x) (he : Ev X A e (.dat d)) (hz : ds.length < sizeLine) (hd : (x == ("__debug__" : Str)) = false) (hcd : (x == ("__classdict__" : Str)) = false)
    (hs : starEach (e :: []) X.env = (false, eval e X.env) :: starEach [] X.env := by rfl) (hpl : ((backTo p3 (starEach (e :: []) X.env)).all (fun x => !x.1) && (backToKw p3 (keywordEach [] X.env)).all (fun x => x.1.isSome) && decide (([e] : List Expr).length + ([] : List Keyword).length + (if ([] : List Keyword).isEmpty then 0 else 1) < 30)) = true := by rfl) (hline : (p2.endLine == p3.line) = true := by rfl)
    (hsw : swapsWith (.Call (.Attribute (.Name x p) "append" p2) [e] [] p3) none p4.line X.env = pure false := by rfl) : S1 X A (.Expr (.Call (.Attribute (.Name x p) "append" p2) [e] [] p3) p4) (.nx (A.set j (.own (.lst (ds ++ [d]))))) :=
  s1_append j (by rw [hX.eN]; exact hN) hA (hX.vis hv) he hz rfl hd hcd hs hpl hline hsw
theorem retOF (j : Nat) {ob : Ob} (hN : N[j]? = some x) (hA : A[j]? = some (.own ob)) (hv : Vis sc x) (hd : (x == ("__debug__" : Str)) = false) (hcd : (x == ("__classdict__" : Str)) = false) : S1 X A (.Return (some (.Name x p)) pos) (.rt (.own ob)) :=
  s1_retO j (by rw [hX.eN]; exact hN) hA (hX.vis hv) hd hcd
theorem tgF (hT : XT X) (j : Nat) (hN : N[j]? = some x) (hx : L2.Loc sc x) : PG X (.Name x pos) (gName j) := pg_name hX.ndX (by rw [hX.eN]; exact hN) (hX.loc hx) (.inl (hT.fn _))
theorem tgB (j : Nat) (hN : N[j]? = some x) (hx : sc.names.lookup x = some .local) : PG X (.Name x pos) (gName j) := pg_name hX.ndX (by rw [hX.eN]; exact hN) (hX.loc (.inl hx)) (.inr (by rw [hX.eS]; exact hx))
/-- for x in ..: over a list, a tuple, all of it -/
theorem forL {α : Type} {body : List Stmt} {tg : Expr} {src : List PyData} (j : Nat) (xs : List α) (enc : α → PyData) (inv : Nat → List C) (hi : EvI X A tg e src) (hsrc : src = xs.map enc) (hg : PG X tg (gName j)) (h0 : LeA A (inv 0)) (hj : ∀ i, (inv i)[j]?.isSome = true)
    (hb : ∀ (i : Nat) (h : i < xs.length), Sm X ((inv i).set j (.dat (enc xs[i]))) body (.nx (inv (i + 1)))) (hs : ∀ x, foldedSetIterable e X.env x = pure x := by intro _; rfl) : S1 X A (.For tg e body [] pos) (.nx (inv xs.length)) := by
  subst hsrc
  refine s1_for hX.pass hX.calm hi hg tg_name inv xs.length (by simp) h0 (fun i d hi hd => ?_) (.inl ⟨by simp, rfl⟩) hs
  rw [List.getElem?_map, List.getElem?_eq_getElem hi] at hd
  cases hd
  exact ⟨_, ⟨hj i, rfl⟩, hb i hi⟩
/-- .. left at the turn n -/
theorem forLx {α : Type} {body : List Stmt} {tg : Expr} {src : List PyData} {o o' : Out} (j : Nat) (xs : List α) (enc : α → PyData) (inv : Nat → List C) (n : Nat) (hn : n < xs.length) (hi : EvI X A tg e src) (hsrc : src = xs.map enc) (hg : PG X tg (gName j)) (h0 : LeA A (inv 0)) (hj : ∀ i, (inv i)[j]?.isSome = true)
    (hb : ∀ (i : Nat) (h : i < xs.length), i < n → Sm X ((inv i).set j (.dat (enc xs[i]))) body (.nx (inv (i + 1)))) (hx : Sm X ((inv n).set j (.dat (enc xs[n]))) body o') (ho : ExitOf o' o) (hs : ∀ x, foldedSetIterable e X.env x = pure x := by intro _; rfl) : S1 X A (.For tg e body [] pos) o := by
  subst hsrc
  refine s1_for hX.pass hX.calm hi hg tg_name inv n (by simp; omega) h0 (fun i d hi hd => ?_) (.inr ⟨_, _, o', ?_, ⟨hj n, rfl⟩, hx, ho⟩) hs
  · have hi2 : i < xs.length := by omega
    rw [List.getElem?_map, List.getElem?_eq_getElem hi2] at hd
    cases hd
    exact ⟨_, ⟨hj i, rfl⟩, hb i hi2 hi⟩
  · rw [List.getElem?_map, List.getElem?_eq_getElem hn]; rfl
theorem forN {body : List Stmt} {tg : Expr} {n : Nat} {src : List PyData} (g : Nat → PyData) (j : Nat) (inv : Nat → List C) (hi : EvI X A tg e src) (hsrc : src = (List.range n).map g) (hg : PG X tg (gName j)) (h0 : LeA A (inv 0)) (hj : ∀ i, (inv i)[j]?.isSome = true)
    (hb : ∀ (i : Nat), i < n → Sm X ((inv i).set j (.dat (g i))) body (.nx (inv (i + 1)))) (hs : ∀ x, foldedSetIterable e X.env x = pure x := by intro _; rfl) : S1 X A (.For tg e body [] pos) (.nx (inv n)) := by
  subst hsrc
  refine s1_for hX.pass hX.calm hi hg tg_name inv n (by simp) h0 (fun i d hi hd => ?_) (.inl ⟨by simp, rfl⟩) hs
  rw [List.getElem?_map, List.getElem?_range hi] at hd
  cases hd
  exact ⟨_, ⟨hj i, rfl⟩, hb i hi⟩
theorem forR0 {body : List Stmt} {tg : Expr} {n : Nat} {src : List PyData} (j : Nat) (inv : Nat → List C) (hi : EvI X A tg e src) (hsrc : src = (List.range n).map fun i : Nat => .int (i : Int)) (hg : PG X tg (gName j)) (h0 : LeA A (inv 0)) (hj : ∀ i, (inv i)[j]?.isSome = true)
    (hb : ∀ (i : Nat), i < n → Sm X ((inv i).set j (.dat (.int (i : Int)))) body (.nx (inv (i + 1)))) (hs : ∀ x, foldedSetIterable e X.env x = pure x := by intro _; rfl) : S1 X A (.For tg e body [] pos) (.nx (inv n)) := by
  subst hsrc
  refine s1_for hX.pass hX.calm hi hg tg_name inv n (by simp) h0 (fun i d hi hd => ?_) (.inl ⟨by simp, rfl⟩) hs
  rw [List.getElem?_map, List.getElem?_range hi] at hd
  cases hd
  exact ⟨_, ⟨hj i, rfl⟩, hb i hi⟩
/-- for k in range(n) -/
theorem forR {body : List Stmt} {tg : Expr} {n : Nat} {lo : Int} {src : List PyData} (j : Nat) (inv : Nat → List C) (hi : EvI X A tg e src) (hsrc : src = (List.range n).map fun i : Nat => .int (lo + i)) (hg : PG X tg (gName j)) (h0 : LeA A (inv 0)) (hj : ∀ i, (inv i)[j]?.isSome = true)
    (hb : ∀ (i : Nat), i < n → Sm X ((inv i).set j (.dat (.int (lo + i)))) body (.nx (inv (i + 1)))) (hs : ∀ x, foldedSetIterable e X.env x = pure x := by intro _; rfl) : S1 X A (.For tg e body [] pos) (.nx (inv n)) := by
  subst hsrc
  refine s1_for hX.pass hX.calm hi hg tg_name inv n (by simp) h0 (fun i d hi hd => ?_) (.inl ⟨by simp, rfl⟩) hs
  rw [List.getElem?_map, List.getElem?_range hi] at hd
  cases hd
  exact ⟨_, ⟨hj i, rfl⟩, hb i hi⟩
theorem forRx {body : List Stmt} {tg : Expr} {m : Nat} {lo : Int} {src : List PyData} {o o' : Out} (j : Nat) (inv : Nat → List C) (n : Nat) (hn : n < m) (hi : EvI X A tg e src) (hsrc : src = (List.range m).map fun i : Nat => .int (lo + i)) (hg : PG X tg (gName j)) (h0 : LeA A (inv 0)) (hj : ∀ i, (inv i)[j]?.isSome = true)
    (hb : ∀ (i : Nat), i < n → Sm X ((inv i).set j (.dat (.int (lo + i)))) body (.nx (inv (i + 1)))) (hx : Sm X ((inv n).set j (.dat (.int (lo + n)))) body o') (ho : ExitOf o' o) (hs : ∀ x, foldedSetIterable e X.env x = pure x := by intro _; rfl) : S1 X A (.For tg e body [] pos) o := by
  subst hsrc
  refine s1_for hX.pass hX.calm hi hg tg_name inv n (by simp; omega) h0 (fun i d hi hd => ?_) (.inr ⟨_, _, o', ?_, ⟨hj n, rfl⟩, hx, ho⟩) hs
  · rw [List.getElem?_map, List.getElem?_range (by omega)] at hd
    cases hd
    exact ⟨_, ⟨hj i, rfl⟩, hb i hi⟩
  · rw [List.getElem?_map, List.getElem?_range hn]; rfl
theorem whileF {c : Expr} {body : List Stmt} (inv : Nat → List C) (n : Nat) (h0 : LeA A (inv 0)) (hb : ∀ i, i < n → Et X (inv i) c true ∧ Sm X (inv i) body (.nx (inv (i + 1)))) (he : Et X (inv n) c false) : S1 X A (.While c body [] pos) (.nx (inv n)) :=
  s1_while hX.pass inv n h0 hb (.inl ⟨he, rfl⟩)
/-- .. its test told once for all turns -/
theorem whileV {c : Expr} {body : List Stmt} (inv : Nat → List C) (n : Nat) (v : Nat → Bool) (h0 : LeA A (inv 0)) (ht : ∀ i, i ≤ n → Et X (inv i) c (v i)) (hv : ∀ i, i < n → v i = true) (hn : v n = false) (hb : ∀ i, i < n → Sm X (inv i) body (.nx (inv (i + 1)))) : S1 X A (.While c body [] pos) (.nx (inv n)) :=
  s1_while hX.pass inv n h0 (fun i hi => ⟨hv i hi ▸ ht i (Nat.le_of_lt hi), hb i hi⟩) (.inl ⟨hn ▸ ht n (Nat.le_refl n), rfl⟩)
theorem whileFx {c : Expr} {body : List Stmt} {o o' : Out} (inv : Nat → List C) (n : Nat) (h0 : LeA A (inv 0)) (hb : ∀ i, i < n → Et X (inv i) c true ∧ Sm X (inv i) body (.nx (inv (i + 1)))) (he : Et X (inv n) c true) (hx : Sm X (inv n) body o') (ho : ExitOf o' o) : S1 X A (.While c body [] pos) o :=
  s1_while hX.pass inv n h0 hb (.inr ⟨o', he, hx, ho⟩)
/-- the context of a comprehension's block -/
theorem XF.blk {scope : Scope} {s : Shared} {H : Hp} {C : Addr} {cl : List (Str × Addr)} {fp : List Addr} : XF P w K mg base N (relS scope sc) k (X.blk s H scope (compEnvC scope cl C X.env) fp) where
  eP := hX.eP
  eW := hX.eW
  eK := hX.eK
  eM := hX.eM
  eB := hX.eB
  eN := hX.eN
  eS := by rw [← hX.eS]; rfl
  calm := hX.calm
  nd := hX.nd
  room := hX.room
  pass := PassesOwn.never
end
end LR

set_option Elab.async false
set_option linter.all false
set_option maxRecDepth 100000
set_option maxHeartbeats 4000000
/-! The layer LR, part h: comprehensions, raise and the rule of a def over a told context. -/
namespace LR
open PySem PySem.Spec PyProof.Rows L2
section
variable {P : Program} {w : World} {K : PySem.W.Frag} {mg : Str → Option Value} {base : Heap} {N : List Str} {sc : Scope} {k : Nat}
variable {X : Cx} {e a b : Expr} {es : List Expr} {A : List C} {pos p p2 : Pos} {x : Str}

theorem fnF {x qual : Str} {st : Stmt} {f : Addr} {fd : FuncData} {N ps : List Str} {k : Nat} {R : List PyData → Res → Prop} (F : Fun K x qual st f fd) (hm : mg x = some (.ref f)) (b : Binds K fd ps []) (S : FnScope N ps (defScope st)) (hR : ∀ ds r, R ds r → ds.length = ps.length)
    (hbody : ∀ X, XF P w K mg base N (defScope st) k X → XT X → ∀ ds r, R ds r → SmR X (A0 N ds) (defBody st) r) : Fn P w K mg base (k + 1) x ps R :=
  fn_ok F hm b S hR fun cdv A outer s H E hr ds r h => hbody _ ⟨rfl, rfl, rfl, rfl, rfl, rfl, rfl, rfl, S.nd, hr, passes_of rfl⟩ ⟨rfl, rfl, fun _ => rfl⟩ ds r h
variable (hX : XF P w K mg base N sc k X)
include hX
theorem raiseF (hT : XT X) {j} {m : Str} {pos' : Pos} (F : XC K mg x) (hg : GlS sc x) (hdb : (x == ("__debug__" : Str)) = false) : S1 X A (.Raise (some (.Call (.Name x p) [.Constant (.str m) j p2] [] pos)) none pos') (.ex x A) :=
  s1_raise hX.calm (by rw [hX.eK, hX.eM]; exact F) (hX.gl hg) hT.stack hT.frame hdb
theorem lcIf {α : Type} {elt iter c : Expr} {scope : Scope} {src : List PyData} (j : Nat) (xs : List α) (enc : α → PyData) (pr : α → Bool) (f : α → PyData) (hi : EvI X A (.Name x p) iter src) (hsrc : src = xs.map enc) (ok : blkC N sc scope [(x, j)] = true)
    (hN : N[j]? = some x) (hx : (relS scope sc).names.lookup x = some .local) (hz : xs.length < sizeLine) (hj : A[j]?.isSome = true)
    (hb : ∀ Y, XF P w K mg base N (relS scope sc) k Y → ∀ z ∈ xs, Et Y ((A.set j .un).set j (.dat (enc z))) c (pr z) ∧ (pr z = true → Ev Y ((A.set j .un).set j (.dat (enc z))) elt (.dat (f z))))
    (hs : ∀ x, foldedSetIterable iter X.env x = pure x := by intro _; rfl) : Ev X A (.ListComp elt [⟨.Name x p, iter, [c], 0⟩] scope pos) (.own (.lst ((xs.filter pr).map f))) :=
  ev_lc (own := [(x, j)]) (g := gName j) (U := uName j) xs enc pr f hX.calm hX.ndX hi hsrc (by rw [hX.eN, hX.eS]; exact blkOk_by ok) (fun s H C cl fp => tgB hX.blk j hN hx) tg_name tgw_name (Nat.le_refl _) hz
    (fun z hz => ⟨_, ⟨by show ((A.set j .un)[j]?).isSome = true; rw [List.getElem?_set_self (lt_of_some hj)]; rfl, rfl⟩, fun s H C cl fp => (hb _ hX.blk z hz).1, fun h s H C cl fp => (hb _ hX.blk z hz).2 h⟩) hs
theorem lcF {α : Type} {elt iter : Expr} {scope : Scope} {src : List PyData} (j : Nat) (xs : List α) (enc : α → PyData) (f : α → PyData) (hi : EvI X A (.Name x p) iter src) (hsrc : src = xs.map enc) (ok : blkC N sc scope [(x, j)] = true)
    (hN : N[j]? = some x) (hx : (relS scope sc).names.lookup x = some .local) (hz : xs.length < sizeLine) (hj : A[j]?.isSome = true)
    (hb : ∀ Y, XF P w K mg base N (relS scope sc) k Y → ∀ z ∈ xs, Ev Y ((A.set j .un).set j (.dat (enc z))) elt (.dat (f z)))
    (hs : ∀ x, foldedSetIterable iter X.env x = pure x := by intro _; rfl) : Ev X A (.ListComp elt [⟨.Name x p, iter, [], 0⟩] scope pos) (.own (.lst (xs.map f))) := by
  have q := ev_lc (own := [(x, j)]) (g := gName j) (U := uName j) (A := A) (elt := elt) (ifs := []) (pos := pos) xs enc (fun _ => true) f hX.calm hX.ndX hi hsrc (by rw [hX.eN, hX.eS]; exact blkOk_by ok) (fun s H C cl fp => tgB hX.blk j hN hx) tg_name tgw_name (Nat.zero_le _) hz
    (fun z hz => ⟨_, ⟨by show ((A.set j .un)[j]?).isSome = true; rw [List.getElem?_set_self (lt_of_some hj)]; rfl, rfl⟩, rfl, fun h s H C cl fp => hb _ hX.blk z hz⟩) hs
  rw [List.filter_eq_self.mpr fun _ _ => rfl] at q
  exact q
/-- name = [..], no if -/
theorem setLcF {α : Type} {elt iter : Expr} {scope : Scope} {src : List PyData} {y : Str} {py spos : Pos} (i j : Nat) (xs : List α) (enc : α → PyData) (f : α → PyData) (hi : EvI X A (.Name x p) iter src) (hsrc : src = xs.map enc) (ok : blkC N sc scope [(x, j)] = true)
    (hN : N[j]? = some x) (hx : (relS scope sc).names.lookup x = some .local) (hz : xs.length < sizeLine) (hj : A[j]?.isSome = true)
    (hb : ∀ Y, XF P w K mg base N (relS scope sc) k Y → ∀ z ∈ xs, Ev Y ((A.set j .un).set j (.dat (enc z))) elt (.dat (f z)))
    (hyN : N[i]? = some y) (hyl : sc.names.lookup y = some .local) (hyj : A[i]?.isSome = true) (hk : sc.kind = .function) (hl : (py.line == pos.line) = true) (ha : (scope.names.any fun (n, k) => n == y && (k == .local || k == .cell)) = false)
    (hs : ∀ x, foldedSetIterable iter X.env x = pure x := by intro _; rfl) : S1 X A (.Assign [.Name y py] (.ListComp elt [⟨.Name x p, iter, [], 0⟩] scope pos) spos) (.nx (A.set i (.own (.lst (xs.map f))))) := by
  have q := s1_setLc (own := [(x, j)]) (g := gName j) (U := uName j) (A := A) (elt := elt) (ifs := []) (pos := pos) (spos := spos) (py := py) xs enc (fun _ => true) f hX.calm hX.ndX hi hsrc (by rw [hX.eN, hX.eS]; exact blkOk_by ok) (fun s H C cl fp => tgB hX.blk j hN hx) tg_name tgw_name (Nat.zero_le _) hz
    (fun z hz => ⟨_, ⟨by show ((A.set j .un)[j]?).isSome = true; rw [List.getElem?_set_self (lt_of_some hj)]; rfl, rfl⟩, rfl, fun h s H C cl fp => hb _ hX.blk z hz⟩) hs (i := i) (y := y) (by rw [hX.eN]; exact hyN) (by rw [hX.eS]; exact hyl) (sw_true (by rw [hX.eS]; exact hk) (by rw [hX.eS]; exact hyl) hl ha) hyj
  rw [List.filter_eq_self.mpr fun _ _ => rfl] at q
  exact q
/-- over zip: two names -/
theorem lcZ {α : Type} {elt iter : Expr} {scope : Scope} {src : List PyData} {y : Str} {p3 p4 : Pos} {kk} (i j : Nat) (xs : List α) (enc1 enc2 : α → PyData) (f : α → PyData) (hi : EvI X A (.Tuple [.Name x p, .Name y p3] kk p4) iter src) (hsrc : src = xs.map fun z => .tuple [enc1 z, enc2 z]) (ok : blkC N sc scope [(x, i), (y, j)] = true)
    (hNi : N[i]? = some x) (hNj : N[j]? = some y) (hx : (relS scope sc).names.lookup x = some .local) (hy : (relS scope sc).names.lookup y = some .local) (hij : i ≠ j) (hz : xs.length < sizeLine) (hi' : A[i]?.isSome = true) (hj : A[j]?.isSome = true)
    (hb : ∀ Y, XF P w K mg base N (relS scope sc) k Y → ∀ z ∈ xs, Ev Y ((((A.set j .un).set i .un).set i (.dat (enc1 z))).set j (.dat (enc2 z))) elt (.dat (f z)))
    (hs : ∀ x, foldedSetIterable iter X.env x = pure x := by intro _; rfl) : Ev X A (.ListComp elt [⟨.Tuple [.Name x p, .Name y p3] kk p4, iter, [], 0⟩] scope pos) (.own (.lst (xs.map f))) := by
  have l1 := lt_of_some hi'
  have l2 := lt_of_some hj
  have q := ev_lc (own := [(x, i), (y, j)]) (g := gTup X.K [i, j].length (gNames [i, j])) (U := uTup [i, j]) (A := A) (elt := elt) (ifs := []) (pos := pos) xs (fun z => .tuple [enc1 z, enc2 z]) (fun _ => true) f hX.calm hX.ndX hi hsrc (by rw [hX.eN, hX.eS]; exact blkOk_by ok)
    (fun s H C cl fp => pg_tup (es := [.Name x p, .Name y p3]) hX.calm (pgs_cons (e := .Name x p) (es := [.Name y p3]) (tgB hX.blk i hNi hx) (pgs_cons (e := .Name y p3) (es := []) (tgB hX.blk j hNj hy) pgs_nil))) tg_tup (tgw_two hij) (Nat.zero_le _) hz
    (fun z hz => ⟨_, ⟨_, rfl, _, _, rfl, by
      show ((((A.set j .un).set i .un))[i]?).isSome = true
      rw [List.getElem?_set_self (by simpa using l1)]; rfl, _, _, rfl, by
      show (((((A.set j .un).set i .un)).set i _)[j]?).isSome = true
      rw [List.getElem?_set_ne hij, List.getElem?_set_ne hij, List.getElem?_set_self l2]; rfl, rfl, rfl⟩, rfl, fun h s H C cl fp => hb _ hX.blk z hz⟩) hs
  rw [List.filter_eq_self.mpr fun _ _ => rfl] at q
  exact q
end
end LR

set_option Elab.async false
set_option linter.all false
set_option maxRecDepth 100000
set_option maxHeartbeats 4000000
/-! The layer LR, part i: stores by place, repeated lists and tuples, steps of ranges, unpacked lists, equal data. -/
namespace LR
open PySem PySem.Spec PyProof.Rows L2

/-! ### t * 0, t * 1 -/
theorem tuple_mulOne (l : Addr) (items : Array Value) (n : Nat) (dd : Option Addr) (sl : Array (Option Value)) (u : Tok) :
    Meets (Builtin.«tuple.__mul__» ⟨[.ref l, .int 1 u], []⟩) (fun _ R s => s.heap.get? l = some { cls := .type "tuple", dict := dd, data := .seq items n, slots := sl } ∧ R (.ok (.ret (Value.ref l))) s) :=
  .of_wp fun prog w A R s h => by
    obtain ⟨hp, g, d, tk, os⟩ := s
    obtain ⟨hl, h⟩ := h
    have f1 := AutoSeq1.idx_int
    have c1 : (items.isEmpty || (1 : Int) == 1) = true := by simp
    wp_walk using wpAny_loadPart' hl
    repeat (first
      | (refine wpAny_ite_false (decide_eq_false (by decide)) ?_; wp_walk using wpAny_loadPart' hl)
      | (refine wpAny_ite_true (decide_eq_true c1) ?_; wp_walk using wpAny_loadPart' hl))
    exact ⟨_, rfl, h⟩
theorem tuple_mulNone (l : Addr) (items : Array Value) (n : Nat) (dd : Option Addr) (sl : Array (Option Value)) (u : Tok) (hi : items.isEmpty = false) :
    Meets (Builtin.«tuple.__mul__» ⟨[.ref l, .int 0 u], []⟩) (fun _ R s => s.heap.get? l = some { cls := .type "tuple", dict := dd, data := .seq items n, slots := sl } ∧
      R (.ok (.ret (Value.ref s.heap.objs.size))) { s with heap := s.heap.push { cls := Value.type "tuple", data := Data.seq #[] }, toks := s.toks }) :=
  .of_wp fun prog w A R s h => by
    obtain ⟨hp, g, d, tk, os⟩ := s
    obtain ⟨hl, h⟩ := h
    have f1 := AutoSeq1.idx_int
    have c1 : (items.isEmpty || (0 : Int) == 1) = false := by simp [hi]
    have c2 : (decide ((0 : Int) ≤ 0) || items.isEmpty) = true := by simp
    wp_walk using wpAny_loadPart' hl
    repeat (first
      | (refine wpAny_ite_false (decide_eq_false (by decide)) ?_; wp_walk using wpAny_loadPart' hl)
      | (refine wpAny_ite_false (decide_eq_false (by rw [c1]; exact Bool.false_ne_true)) ?_; wp_walk using wpAny_loadPart' hl)
      | (refine wpAny_ite_true (decide_eq_true c2) ?_; wp_walk using wpAny_loadPart' hl))
    exact ⟨_, rfl, h⟩
section
variable {X : Cx}
def rRepA (K : PySem.W.Frag) : R2 := fun x y H Q => ∃ l k xs, x = .ref l ∧ y = .int k ∧ SqT K H l xs ∧ xs ≠ [] ∧ 0 ≤ k ∧ k ≤ 1000 ∧ xs.length ≤ 1000 ∧ (k = 1 → Q (.ref l) H) ∧ (k ≠ 1 → ∀ p, H p = none → Q (.ref p) (upd H p (.tup (List.replicate k.toNat xs).flatten)))
theorem op_repA : OpR X (binaryOp .Mult) (rRepA X.K) := by
  intro pins s σ H x y v u Q I rx ry h
  obtain ⟨l, k, xs, rfl, rfl, hT, hne, h1, h2, hz, q1, q2⟩ := h
  by_cases hk : 2 ≤ k
  · exact op_repT pins s σ H _ _ v u Q I rx ry ⟨l, k, xs, rfl, rfl, hT, hne, hk, h2, hz, q2 (by omega)⟩
  cases rx
  obtain ⟨t, rfl⟩ := ry
  obtain ⟨its, r, ⟨⟨cls, dd, data, sl⟩, ho, hc, n, hd⟩, hs⟩ := I.tuple hT
  simp only at hc hd
  subst hc hd
  have hle : its.length = xs.length := r.length.symm
  have hn : its ≠ [] := fun e => hne (by
    rw [e] at hle
    exact List.eq_nil_of_length_eq_zero hle.symm)
  have hi : its.toArray.isEmpty = false := by
    cases its with
    | nil => exact absurd rfl hn
    | cons a b => rfl
  rcases (show k = 0 ∨ k = 1 by omega) with rfl | rfl
  · refine wpAny_binaryOp_repeat_ref (T := "tuple") (U := "int") (by decide) ⟨_, ho, rfl⟩ (fun s' => typeIs_int s' 0 t) noFill_tuple_mul F.fills_int_mul F.slot_int_rmul repeat_tuple F.slot_int_index.lookup
      (call_meets F.slot_int_rmul (typeIs_int s 0 t) F.entry_int_rmul (F.args_int_rmul_2 _ _) (int_rmul_tuple 0 t l its.toArray n dd sl)
        ⟨ho, rfl, ⟨_, ho, rfl⟩, call_meets F.slot_tuple_mul ⟨_, ho, rfl⟩ F.entry_tuple_mul (F.args_tuple_mul_2 _ _) (tuple_mulNone l its.toArray n dd sl t hi) ⟨ho, ?_⟩⟩)
    refine ⟨.ref s.heap.objs.size, _, I.laid (t' := s.toks) (o := .tup []) (fun b ob q => Heap.get?_push_of_some _ q) (Nat.le_refl _) ?_, rfl, q2 (by decide) _ (I.hok.fresh (Nat.le_refl _))⟩
    exact ⟨Nat.zero_le _, [], .nil, IsTup.new _ _⟩
  · refine wpAny_binaryOp_repeat_ref (T := "tuple") (U := "int") (by decide) ⟨_, ho, rfl⟩ (fun s' => typeIs_int s' 1 t) noFill_tuple_mul F.fills_int_mul F.slot_int_rmul repeat_tuple F.slot_int_index.lookup
      (call_meets F.slot_int_rmul (typeIs_int s 1 t) F.entry_int_rmul (F.args_int_rmul_2 _ _) (int_rmul_tuple 1 t l its.toArray n dd sl)
        ⟨ho, rfl, ⟨_, ho, rfl⟩, call_meets F.slot_tuple_mul ⟨_, ho, rfl⟩ F.entry_tuple_mul (F.args_tuple_mul_2 _ _) (tuple_mulOne l its.toArray n dd sl t) ⟨ho, ?_⟩⟩)
    exact ⟨.ref l, H, I, rfl, q1 rfl⟩
end
theorem rep_one {α : Type} (x : α) : ∀ n : Nat, (List.replicate n [x]).flatten = List.replicate n x
  | 0 => rfl
  | n + 1 => by rw [List.replicate_succ, List.flatten_cons, rep_one x n]; rfl
section
variable {P : Program} {w : World} {K : PySem.W.Frag} {mg : Str → Option Value} {base : Heap} {N : List Str} {sc : Scope} {k : Nat}
variable {X : Cx} {e a b : Expr} {es : List Expr} {A : List C} {pos p p2 : Pos} {x : Str}
theorem ev_repT {ds : List PyData} {n : Int} (h1 : Ev X A a (.dat (.tuple ds))) (h2 : Ev X A b (.dat (.int n))) (hne : ds ≠ []) (h0 : 0 ≤ n) (hn : n ≤ 1000) (hz : ds.length ≤ 1000) : Ev X A (.BinOp a .Mult b pos) (.dat (.tuple (List.replicate n.toNat ds).flatten)) :=
  ev_op op_repA h1 h2 fun I H v w s h1 h2 Q q => by
    obtain ⟨p, xs, rfl, hx, ha⟩ := dp_tup h1
    refine ⟨p, n, xs, rfl, dp_int h2, same_t s hx, fun e0 => ?_, h0, hn, by rw [dpAll_len ha]; exact hz, fun e1 => ?_, fun _ l hl => ?_⟩
    · subst e0
      cases ha
      exact hne rfl
    · subst e1
      refine q _ I H (.refl s) ?_
      have e : (List.replicate (1 : Int).toNat ds).flatten = ds := by simp
      rw [e]
      exact h1
    · have g2 := Grow.new (o := .tup (List.replicate n.toNat xs).flatten) s hl
      exact q _ _ _ g2 (.tup upd_same (dpAll_mono g2.ii (dpAll_rep ha _)))
/-- (c,) * n -/
theorem ev_repI {c n : Int} (h1 : Ev X A a (.dat (.tuple [.int c]))) (h2 : Ev X A b (.dat (.int n))) (h0 : 0 ≤ n) (hn : n ≤ 1000) : Ev X A (.BinOp a .Mult b pos) (.dat (tI (List.replicate n.toNat c))) :=
  ev_eq (ev_repT h1 h2 (by simp) h0 hn (by simp)) (by rw [rep_one]; simp [tI])
theorem ev_repL {ds : List PyData} {n : Int} (h1 : EvL X A a ds) (h2 : Ev X A b (.dat (.int n))) (h0 : 0 ≤ n) (hn : n ≤ 1000) (hz : ds.length ≤ 1000) : Ev X A (.BinOp a .Mult b pos) (.own (.lst (List.replicate n.toNat ds).flatten)) := fun I0 H0 σ I H rl Q q =>
  wx_of (pe_op op_rep wx_pe wx_pe) (h1 I0 H0 σ I H rl _ fun p xs I1 H1 g1 hp ha => h2 I0 H0 σ I1 H1 (rl.grow g1) _ fun v I2 H2 g2 hv =>
    ⟨p, n, xs, rfl, dp_int hv, g2.hh _ _ hp, by omega, by omega, by
      rw [dpAll_len ha, sizeLine_eq]
      have := Nat.mul_le_mul hz (show n.toNat ≤ 1000 by omega)
      omega, fun l hl => by
      have g3 := Grow.newH (o := .lst (List.replicate n.toNat xs).flatten) g2.ih hl
      exact q _ _ _ ((g1.trans g2).trans g3) ⟨l, _, rfl, (g1.trans g2).hh.free hl, g2.ih.free hl, upd_same, dpAll_rep (dpAll_mono g2.ii ha) _⟩⟩)
theorem ev_repLI {c n : Int} (h1 : EvL X A a [.int c]) (h2 : Ev X A b (.dat (.int n))) (h0 : 0 ≤ n) (hn : n ≤ 1000) : Ev X A (.BinOp a .Mult b pos) (.own (.lst ((List.replicate n.toNat c).map .int))) :=
  ev_eq (ev_repL h1 h2 h0 hn (by simp)) (by rw [rep_one, List.map_replicate])

/-- the def's own list at name j has become another -/
theorem rel_mut {K : PySem.W.Frag} {I0 H0 I H : Hp} {A : List C} {σ : L2.St} (r1 : Rel K I0 H0 A σ I H) {j : Nat} {q : Addr} {b b' : Ob} {o : HO} (hA : A[j]? = some (.own b)) (e1 : σ[j]? = some (some (.ref q))) (n0 : H0 q = none) (n1 : I q = none) (hb : ObAt K I o b') :
    Rel K I0 H0 (A.set j (.own b')) σ I (upd H q o) := by
  have hj : j < A.length := by
    by_cases hj : j < A.length
    · exact hj
    · rw [List.getElem?_eq_none (by omega)] at hA; cases hA
  refine ⟨r1.gr.mut n0 n1, by rw [List.length_set]; exact r1.len, fun i c hc => ?_, fun i i' r ne o1 o2 h => ?_⟩
  · by_cases hi : j = i
    · subst hi
      rw [List.getElem?_set_self hj] at hc
      cases hc
      exact ⟨q, _, e1, n0, n1, upd_same, hb⟩
    · rw [List.getElem?_set_ne hi] at hc
      have z := r1.cell i c hc
      cases c with
      | un => trivial
      | rf a => exact z
      | tpo ds es => trivial
      | kn a d => exact z
      | dat d => exact z
      | own b =>
        obtain ⟨q2, o2, e2, m0, m, ho2, hb2⟩ := z
        refine ⟨q2, o2, e2, m0, m, ?_, hb2⟩
        have hne : q2 ≠ q := fun z => by
          subst z
          exact r1.apart j i q2 hi (by rw [hA]; trivial) (by rw [hc]; trivial) e1 e2
        rw [upd_ne hne]
        exact ho2
  · have key : ∀ i : Nat, isOwn (A.set j (.own b'))[i]? → isOwn A[i]? := fun i o => by
      by_cases hi : j = i
      · subst hi; rw [hA]; trivial
      · rw [List.getElem?_set_ne hi] at o; exact o
    exact r1.apart i i' r ne (key i o1) (key i' o2) h
variable (hX : XF P w K mg base N sc k X)
include hX
/-- xs[i] = e, xs the def's own list -/
theorem putF (j : Nat) {ds : List PyData} {d : PyData} {i : Int} {ix : Expr} {p3 p4 : Pos} (hN : N[j]? = some x) (hA : A[j]? = some (.own (.lst ds))) (hv : Vis sc x) (he : Ev X A e (.dat d)) (hi : Ev X A ix (.dat (.int i))) (h0 : 0 ≤ i) (h1 : i < ds.length) (hd : (x == ("__debug__" : Str)) = false) (hcd : (x == ("__classdict__" : Str)) = false)
    (ha : ∀ v, assign (.Subscript (.Name x p3) ix p4) X.env v = (do
      let ov ← holding [v] (eval (.Name x p3) X.env)
      let iv ← holding [v, ov] (eval ix X.env)
      standAt p4
      holding [v, ov, iv] (setItem ov iv v)
      release [v, ov, iv] []) := by intro _; rfl)
    (hs : swapsWithSole [.Subscript (.Name x p3) ix p4] e pos.line X.env = pure false := by rfl) (hw : swappedStores [.Subscript (.Name x p3) ix p4] e X.env = pure none := by rfl) :
    S1 X A (.Assign [.Subscript (.Name x p3) ix p4] e pos) (.nx (A.set j (.own (.lst (ds.set i.toNat d))))) := fun I0 H0 σ I H rl D f => by
  obtain ⟨q, o, e1, n0, n, ho, hb⟩ := rl.cell j _ hA
  obtain ⟨vs, rfl, hv1⟩ := obAt_lst hb
  refine ws_of (ps_asg wx_pe (pg_sub (pe_var (by rw [hX.eN]; exact hN) (hX.vis hv) hd hcd) wx_pe set_list ha) hs hw) ?_
  refine he I0 H0 σ I H rl _ fun v I1 H1 g1 hd1 => ⟨.ref q, e1, ?_⟩
  refine hi I0 H0 σ I1 H1 (rl.grow g1) _ fun u I2 H2 g2 hu => ?_
  have g := g1.trans g2
  have n1 := g.nw q _ ho n
  refine ⟨q, vs, i, i.toNat, rfl, dp_int hu, g.hh _ _ ho, ?_, ?_⟩
  · unfold ixN
    rw [dpAll_len hv1, if_pos h0, if_pos h1]
  · exact f σ I2 _ g.ii (rel_mut (rl.grow g) hA e1 n0 n1 (dpAll_set (dp_mono g2.ii hd1) _ (dpAll_mono g.ii hv1)))
/-- a, b, .. = a list -/
theorem unpL {js : List Nat} {ds : List PyData} {A' : List C} {tgs : List Expr} {kk} (hg : PGs X tgs (gNames js)) (he : EvS X A e true ds) (hu : uNames js A ds A') (hlen : (assignEach tgs X.env).length = js.length := by rfl) (hst : (assignEach tgs X.env).findIdx? (·.1) = none := by rfl)
    (hs : swapsWithSole [.Tuple tgs kk p2] e pos.line X.env = pure false := by rfl) (hw : swappedStores [.Tuple tgs kk p2] e X.env = pure none := by rfl) : S1 X A (.Assign [.Tuple tgs kk p2] e pos) (.nx A') := fun I0 H0 σ I H rl D f =>
  ws_of (ps_asg wx_pe (pg_lst hX.calm hg hlen hst) hs hw) (he I0 H0 σ I H rl _ fun p vs I1 H1 g hk ha =>
    ⟨p, vs, rfl, hk, by rw [dpAll_len ha, uNames_len hu], tg_names hu (rl.grow g) ha _ fun σ' r' => f σ' I1 H1 g.ii r'⟩)
/-- a, b, .. = a tuple -/
theorem unpT {js : List Nat} {ds : List PyData} {A' : List C} {tgs : List Expr} {kk} (hg : PGs X tgs (gNames js)) (he : Ev X A e (.dat (.tuple ds))) (hu : uNames js A ds A') (hlen : (assignEach tgs X.env).length = js.length := by rfl) (hst : (assignEach tgs X.env).findIdx? (·.1) = none := by rfl)
    (hs : swapsWithSole [.Tuple tgs kk p2] e pos.line X.env = pure false := by rfl) (hw : swappedStores [.Tuple tgs kk p2] e X.env = pure none := by rfl) : S1 X A (.Assign [.Tuple tgs kk p2] e pos) (.nx A') := fun I0 H0 σ I H rl D f =>
  ws_of (ps_asg wx_pe (pg_tup hX.calm hg hlen hst) hs hw) (he I0 H0 σ I H rl _ fun v I1 H1 g hv => by
    obtain ⟨p, vs, rfl, hk, ha⟩ := dp_tup (show Dp X.K I1 v (.tuple ds) from hv)
    exact ⟨p, vs, rfl, same_t g.ih hk, by rw [dpAll_len ha, uNames_len hu], tg_names hu (rl.grow g) ha _ fun σ' r' => f σ' I1 H1 g.ii r'⟩)
end
end LR

set_option Elab.async false
set_option linter.all false
set_option maxRecDepth 100000
set_option maxHeartbeats 4000000
/-! The layer LR, part j: equal data, sums of written and other tuples, ranges by steps. -/
namespace LR
open PySem PySem.Spec PyProof.Rows L2

/-- an encoding of a type as data: it may be compared, and comparing tells equality -/
structure Enc {α : Type} [DecidableEq α] (enc : α → PyData) (d : Nat) : Prop where
  lay : ∀ x, (enc x).canLay0 = true
  dep : ∀ x, (enc x).depth ≤ d
  eqv : ∀ x y, PyData.eqv (enc x) (enc y) = decide (x = y)
section
variable {α : Type} [DecidableEq α] {enc : α → PyData} {d : Nat}
theorem Enc.layAll (h : Enc enc d) : ∀ xs : List α, PyData.canLayAll0 (xs.map enc) = true
  | [] => by simp [PyData.canLayAll0]
  | x :: r => by rw [List.map_cons]; simp only [PyData.canLayAll0, h.lay x, Bool.true_and]; exact h.layAll r
theorem Enc.depAll (h : Enc enc d) : ∀ xs : List α, PyData.depthAll (xs.map enc) ≤ d
  | [] => by simp [PyData.depthAll]
  | x :: r => by rw [List.map_cons]; simp only [PyData.depthAll]; have := h.depAll r; have := h.dep x; omega
theorem Enc.eqvAll (h : Enc enc d) : ∀ xs ys : List α, PyData.eqvAll (xs.map enc) (ys.map enc) = decide (xs = ys)
  | [], [] => by simp [PyData.eqvAll]
  | [], y :: ys => by simp [PyData.eqvAll]
  | x :: xs, [] => by simp [PyData.eqvAll]
  | x :: xs, y :: ys => by
    rw [List.map_cons, List.map_cons]
    simp only [PyData.eqvAll, h.eqv x y, h.eqvAll xs ys]
    by_cases e1 : x = y <;> by_cases e2 : xs = ys <;> simp [e1, e2]
theorem Enc.tup (h : Enc enc d) : Enc (fun xs : List α => PyData.tuple (xs.map enc)) (d + 1) where
  lay := fun xs => by simp only [PyData.canLay0]; exact h.layAll xs
  dep := fun xs => by simp only [PyData.depth]; have := h.depAll xs; omega
  eqv := fun xs ys => by simp only [PyData.eqv]; exact h.eqvAll xs ys
theorem Enc.lst (h : Enc enc d) : Enc (fun xs : List α => PyData.list (xs.map enc)) (d + 1) where
  lay := fun xs => by simp only [PyData.canLay0]; exact h.layAll xs
  dep := fun xs => by simp only [PyData.depth]; have := h.depAll xs; omega
  eqv := fun xs ys => by simp only [PyData.eqv]; exact h.eqvAll xs ys
theorem Enc.shaped (h : Enc enc d) (hd : d ≤ 64) (x : α) : SeqAt.shaped (enc x) = true := by
  unfold SeqAt.shaped
  rw [h.lay x, Bool.true_and]
  exact decide_eq_true (Nat.le_trans (h.dep x) hd)
end
theorem encInt : Enc PyData.int 0 where
  lay := fun x => by simp [PyData.canLay0]
  dep := fun x => by simp [PyData.depth]
  eqv := fun x y => by simp only [PyData.eqv]; rfl
theorem encI : Enc tI 1 := encInt.tup
theorem encT : Enc tT 2 := encI.tup
section
variable {P : Program} {w : World} {K : PySem.W.Frag} {mg : Str → Option Value} {base : Heap} {N : List Str} {sc : Scope} {k : Nat}
variable {X : Cx} {e a b : Expr} {es : List Expr} {A : List C} {pos p p2 : Pos} {x : Str}
/-! the last item -/
theorem atLast {α : Type} {xs : List α} (z : α) (h : 0 < xs.length) : atI xs (-1) = some (xs.getD (xs.length - 1) z) := by
  unfold atI ixN
  rw [if_neg (by omega), if_pos (by omega)]
  have e : (-1 + (xs.length : Int)).toNat = xs.length - 1 := by omega
  show xs[(-1 + (xs.length : Int)).toNat]? = _
  rw [e, List.getD_eq_getElem?_getD, List.getElem?_eq_getElem (by omega)]
  rfl
theorem ixLastI {xs : List Int} (h : 0 < xs.length) : IxD (xs.map .int) (-1) (.int (xs.getD (xs.length - 1) 0)) := .lit (by
  have q := atLast (xs := xs.map PyData.int) (.int 0) (by simpa using h)
  rw [q]
  congr 1
  rw [List.length_map, List.getD_eq_getElem?_getD, List.getD_eq_getElem?_getD, List.getElem?_map, List.getElem?_eq_getElem (by omega)]
  rfl)
variable (hX : XF P w K mg base N sc k X)
include hX
theorem cmpEq {α : Type} [DecidableEq α] {enc : α → PyData} {d : Nat} (h : Enc enc d) (hd : d ≤ 64) {x y : α} : CmpR X .Eq b (enc x) (enc y) (decide (x = y)) := (cmpR_eqD hX.room (h.shaped hd x) (h.shaped hd y)).eq (h.eqv x y)
theorem cmpNe {α : Type} [DecidableEq α] {enc : α → PyData} {d : Nat} (h : Enc enc d) (hd : d ≤ 64) {x y : α} : CmpR X .NotEq b (enc x) (enc y) (!decide (x = y)) := (cmpR_neD hX.room (h.shaped hd x) (h.shaped hd y)).eq (by rw [h.eqv x y])
theorem cmpEqI {x y : List Int} : CmpR X .Eq b (tI x) (tI y) (decide (x = y)) := cmpEq hX encI (by decide)
theorem cmpNeI {x y : List Int} : CmpR X .NotEq b (tI x) (tI y) (!decide (x = y)) := cmpNe hX encI (by decide)
theorem cmpEqT {x y : List (List Int)} : CmpR X .Eq b (tT x) (tT y) (decide (x = y)) := cmpEq hX encT (by decide)
theorem cmpNeT {x y : List (List Int)} : CmpR X .NotEq b (tT x) (tT y) (!decide (x = y)) := cmpNe hX encT (by decide)
/-! range(lo, hi, c) -/
theorem range3F {tg : Expr} {lo hi c : Int} {n : Nat} {ea eb ec : Expr} (hg : GlS sc "range") (hm : mg "range" = none) (h : EvA X A [ea, eb, ec] [.int lo, .int hi, .int c]) (hc : c ≠ 0) (hc2 : c.natAbs < 1073741824) (hs : Builtin.Range.small lo hi c = true) (hn : Builtin.Range.rangeSize lo hi c = n)
    (hs1 : starEach [ea, eb, ec] X.env = (false, eval ea X.env) :: starEach [eb, ec] X.env := by rfl) (hpl : (backTo pos (starEach [eb, ec] X.env)).any (·.1) = false := by rfl) :
    EvI X A tg (.Call (.Name "range" p) [ea, eb, ec] [] pos) ((List.range n).map fun i : Nat => .int (lo + i * c)) :=
  ⟨_, pi_range3 (hX.gl hg) (by rw [hX.eM]; exact hm) wa_pa hs1 hpl, fun I0 H0 σ I H rl R q => h I0 H0 σ I H rl _ fun vs I1 H1 g hv => by
    cases hv with
    | cons a1 a2 => cases a2 with
      | cons a2 a3 => cases a3 with
        | cons a3 a4 =>
          cases a4
          refine ⟨lo, hi, c, n, by rw [dp_int a1, dp_int a2, dp_int a3], ⟨hc, hc2, hs, hn⟩, q _ I1 H1 g ⟨fun i d e I2 H2 s1 s2 => ?_, fun I2 H2 s1 s2 => by show n ≤ _; simp⟩⟩
          rw [List.getElem?_map] at e
          by_cases hi : i < n
          · rw [List.getElem?_range hi] at e
            refine ⟨hi, fun x H3 ⟨e3, f⟩ => ?_⟩
            subst e3 f
            simp at e
            subst e
            exact ⟨I2, .refl s2, .int _⟩
          · rw [List.getElem?_eq_none (by simpa using hi)] at e
            cases e⟩
end
/-- steps that go up within small bounds -/
theorem size_up {a b c : Int} (hc : 0 < c) : Builtin.Range.rangeSize a b c = ((b - a + c - 1) / c).toNat := by
  unfold Builtin.Range.rangeSize
  rw [if_pos hc]
  by_cases h : a < b
  · rw [if_pos h]
    have e : b - a + c - 1 = (b - a - 1) + c * 1 := by omega
    rw [e, Int.add_mul_ediv_left _ _ (by omega)]
    have : 0 ≤ (b - a - 1) / c := Int.ediv_nonneg (by omega) (by omega)
    omega
  · rw [if_neg h]
    have h2 : (b - a + c - 1) / c < 1 := Int.ediv_lt_of_lt_mul hc (by omega)
    omega
theorem small_up {a b c : Int} (ha : -1000000 ≤ a) (ha' : a ≤ 1000000) (hb : -1000000 ≤ b) (hb' : b ≤ 1000000) (hc : 0 < c) (hc' : c ≤ 1000000) : Builtin.Range.small a b c = true := by
  have h1 : Builtin.Range.rangeSize a b c ≤ 2000001 ∧ 0 ≤ Builtin.Range.rangeSize a b c := by
    unfold Builtin.Range.rangeSize
    rw [if_pos hc]
    split
    · have h0 : 0 ≤ (b - a - 1) / c := Int.ediv_nonneg (by omega) (by omega)
      have h2 : (b - a - 1) / c ≤ b - a - 1 := Int.ediv_le_self _ (by omega)
      omega
    · omega
  unfold Builtin.Range.small
  generalize Builtin.Range.rangeSize a b c = n at *
  simp only [Builtin.Range.rangeFitsLong, Bool.and_eq_true, Bool.or_eq_true, decide_eq_true_eq, beq_iff_eq, show c > 0 from hc, if_true]
  omega
end LR

set_option Elab.async false
set_option linter.all false
set_option maxRecDepth 100000
set_option maxHeartbeats 4000000
/-! The layer LR, part k: slices of lists with a step. -/
namespace LR
open PySem PySem.Spec PyProof.Rows L2

/-- xs[lo:hi:st] -/
def cutS {α : Type} (xs : List α) (lo hi st : Option Int) : List α :=
  (sliceRange (sliceBounds lo hi st xs.length).1 (sliceBounds lo hi st xs.length).2.1 (sliceBounds lo hi st xs.length).2.2).filterMap (xs[·]?)
theorem cutS_map {α β : Type} (f : α → β) (xs : List α) (lo hi st : Option Int) : cutS (xs.map f) lo hi st = (cutS xs lo hi st).map f := by
  unfold cutS
  rw [List.length_map, List.map_filterMap]
  congr 1
  funext i
  rw [List.getElem?_map]
theorem cutS_pick (its : List Value) (lo hi st : Option Int) : slicePick its.toArray lo hi st = (cutS its lo hi st).toArray := by
  unfold slicePick cutS
  rw [List.size_toArray]
  have e : (fun x : Nat => its.toArray[x]?) = fun x => its[x]? := by funext x; simp
  rw [e]
theorem vals_at : ∀ {vs : List V} {us : List Value}, Vals vs us → ∀ {i : Nat} {v : V}, vs[i]? = some v → ∃ u, us[i]? = some u ∧ RelV v u
  | _, _, .nil, _, _, e => by simp at e
  | _, _, .cons h _, 0, _, e => by simp at e; subst e; exact ⟨_, rfl, h⟩
  | _, _, .cons _ t, i + 1, d, e => by
    obtain ⟨v, h1, h2⟩ := vals_at t (i := i) (v := d) (by simpa using e)
    exact ⟨v, by simpa using h1, h2⟩
theorem pick_rel {vs : List V} {us : List Value} (r : Vals vs us) : ∀ ix : List Nat, Vals (ix.filterMap (vs[·]?)) (ix.filterMap (us[·]?))
  | [] => .nil
  | i :: ix => by
    have hl := r.length
    rw [List.filterMap_cons, List.filterMap_cons]
    by_cases h : i < vs.length
    · obtain ⟨u, e1, e2⟩ := vals_at r (List.getElem?_eq_getElem h)
      rw [List.getElem?_eq_getElem h, e1]
      exact .cons e2 (pick_rel r ix)
    · rw [List.getElem?_eq_none (by omega), List.getElem?_eq_none (by omega)]
      exact pick_rel r ix
theorem pick_dp {K : PySem.W.Frag} {H : Hp} {vs : List V} {ds : List PyData} (r : DpAll K H vs ds) : ∀ ix : List Nat, DpAll K H (ix.filterMap (vs[·]?)) (ix.filterMap (ds[·]?))
  | [] => .nil
  | i :: ix => by
    have hl := dpAll_len r
    rw [List.filterMap_cons, List.filterMap_cons]
    by_cases h : i < ds.length
    · obtain ⟨u, e1, e2⟩ := dpAll_get r (List.getElem?_eq_getElem h)
      rw [List.getElem?_eq_getElem h, e1]
      exact .cons e2 (pick_dp r ix)
    · rw [List.getElem?_eq_none (by omega), List.getElem?_eq_none (by omega)]
      exact pick_dp r ix
section
variable {X : Cx} {e lo : Expr} {te tl : TE} {A : List C}
def tStL (K : PySem.W.Frag) (te tl : TE) (st : Int) : TE := fun σ H Q => te σ H fun x H1 => tPart tl σ H1 fun o H2 => ∃ a xs, x = .ref a ∧ SqL K H2 a xs ∧ ∀ p, H2 p = none → Q (.ref p) (upd H2 p (.lst (cutS xs o none (some st))))
theorem pe_stepL {st : Int} {k} {p1 p3 pos : Pos} (h0 : st ≠ 0) (he : PE X e te) (hl : PE X lo tl) : PE X (.Subscript e (.Slice (some lo) none (some (.Constant (.int st) k p1)) p3) pos) (tStL X.K te tl st) := by
  refine ⟨fun pins s σ H Q I h => ?_⟩
  refine Subscript_ (thn (he.run pins s σ H _ I h) fun v s1 ⟨x, H1, I1, r1, q1⟩ => ?_)
  have hst : PO X (some (.Constant (.int st) k p1)) (tPart (tC (.int st))) := po_some pe_int
  refine wpAny_Slice (thn ((po_some hl).run pins s1 σ H1 _ I1 q1) fun vl s2 ⟨l, H2, I2, pl, q2⟩ => ?_)
  obtain ⟨a, xs, ex, hx, q⟩ := q2
  subst ex
  cases r1
  refine thn (po_none.run pins s2 σ H2 (fun o H3 => o = none ∧ H3 = H2) I2 ⟨rfl, rfl⟩) fun vu s3 ⟨u, H3, I3, pu, eu, e3⟩ => ?_
  subst eu e3
  refine thn (hst.run pins s3 σ H3 (fun o H4 => o = some st ∧ H4 = H3) I3 ⟨st, rfl, rfl, rfl⟩) fun vs s4 ⟨o, H4, I4, ps, eo, e4⟩ => ?_
  subst eo e4
  have I5 : Inv X pins σ H4 { s4 with heap := s4.heap.push { cls := .type "slice", data := .fields #[vl, vu, vs] } } := I4.kept (t' := s4.toks) fun b ob q => Heap.get?_push_of_some _ q
  obtain ⟨its, r, ht, hz⟩ := I5.list hx
  have hlen := r.length
  show wpAny (model X.prog X.w) X.A (subscriptTail e (.Slice (some lo) none (some (.Constant (.int st) k p1)) p3) (.ref a) (.ref s4.heap.objs.size)) (EP X pins σ Q) X.xe { s4 with heap := s4.heap.push { cls := .type "slice", data := .fields #[vl, vu, vs] } }
  refine tail_any (ops := [.ref a, .ref s4.heap.objs.size]) ht.isList.typeIs (PySem.slot_list_getitem.lookup) ?_ (by with_unfolding_all rfl)
  refine wpAny_getItem_list_slice ht.isList (Heap.IsSliceOf.new _ vl vu vs) pl pu ps (fun z => h0 (by cases z; rfl)) ?_ (by rw [List.size_toArray]; omega)
  have hsz := slicePick_size_le its.toArray l none (some st)
  rw [cutS_pick] at hsz ⊢
  rw [List.size_toArray, List.size_toArray] at hsz
  have hr : Vals (cutS xs l none (some st)) (cutS its l none (some st)) := by
    unfold cutS
    rw [hlen]
    exact pick_rel r _
  refine ⟨.ref _, _, I5.laid (t' := s4.toks) (o := .lst (cutS xs l none (some st))) (fun b ob q => Heap.get?_push_of_some _ q) (Nat.le_refl _) ?_, rfl, q _ (I5.hok.fresh (Nat.le_refl _))⟩
  exact ⟨by rw [hr.length]; omega, _, 0, hr, Heap.get?_push_size _ rfl⟩
theorem ev_stepL {l st : Int} {k} {p1 p3 pos : Pos} {ds : List PyData} (h : EvS X A e true ds) (hl : Ev X A lo (.dat (.int l))) (h0 : st ≠ 0) : Ev X A (.Subscript e (.Slice (some lo) none (some (.Constant (.int st) k p1)) p3) pos) (.own (.lst (cutS ds (some l) none (some st)))) := fun I0 H0 σ I H rl Q q =>
  wx_of (pe_stepL h0 wx_pe wx_pe) (h I0 H0 σ I H rl _ fun p vs I1 H1 g1 hk ha => hl I0 H0 σ I1 H1 (rl.grow g1) _ fun i I2 H2 g2 hi =>
    ⟨l, dp_int hi, p, vs, rfl, same_l g2.hh hk, fun r hr => by
      have g := g1.trans g2
      have g4 := Grow.newH (o := .lst (cutS vs (some l) none (some st))) g2.ih hr
      refine q _ _ _ (g.trans g4) ⟨r, _, rfl, g.hh.free hr, g2.ih.free hr, upd_same, ?_⟩
      have hd := dpAll_mono g2.ii ha
      show DpAll X.K I2 (cutS vs _ _ _) (cutS ds _ _ _)
      unfold cutS
      rw [dpAll_len hd]
      exact pick_dp hd _⟩)
end
end LR

set_option Elab.async false
set_option linter.all false
set_option maxRecDepth 100000
set_option maxHeartbeats 4000000
/-! The layer LR, part l: slices of encoded lists and tuples, great products. -/
namespace LR
open PySem PySem.Spec PyProof.Rows L2

theorem cut_range {α : Type} (xs : List α) (j k : Nat) : cut xs (some (j : Int)) (some (k : Int)) = (xs.drop j).take (k - j) := by
  unfold cut
  rw [HT.sIx_nat, HT.sIx_nat]
  by_cases h : j ≤ xs.length
  · rw [Nat.min_eq_left h]
    by_cases h2 : k ≤ xs.length
    · rw [Nat.min_eq_left h2]
    · rw [Nat.min_eq_right (by omega), List.take_of_length_le (by simp), List.take_of_length_le (by simp; omega)]
  · rw [Nat.min_eq_right (by omega : xs.length ≤ j), List.drop_eq_nil_of_le (Nat.le_refl _), List.drop_eq_nil_of_le (by omega : xs.length ≤ j)]
    simp
section
variable {X : Cx} {e lo hi : Expr} {A : List C} {pos p2 : Pos} {α : Type} {enc : α → PyData} {xs : List α}
theorem ev_takeT {i : Int} (h : Ev X A e (.dat (.tuple (xs.map enc)))) (hu : Ev X A hi (.dat (.int i))) (h0 : 0 ≤ i) : Ev X A (.Subscript e (.Slice none (some hi) none p2) pos) (.dat (.tuple ((xs.take i.toNat).map enc))) := by
  obtain ⟨k, rfl⟩ := Int.eq_ofNat_of_zero_le h0
  exact ev_eq (ev_slT h evo_none (evo_some hu)) (by rw [cut_to, Int.toNat_natCast, List.map_take])
theorem ev_dropT {i : Int} (h : Ev X A e (.dat (.tuple (xs.map enc)))) (hu : Ev X A lo (.dat (.int i))) (h0 : 0 ≤ i) : Ev X A (.Subscript e (.Slice (some lo) none none p2) pos) (.dat (.tuple ((xs.drop i.toNat).map enc))) := by
  obtain ⟨k, rfl⟩ := Int.eq_ofNat_of_zero_le h0
  exact ev_eq (ev_slT h (evo_some hu) evo_none) (by rw [cut_from, Int.toNat_natCast, List.map_drop])
theorem ev_midT {i j : Int} (h : Ev X A e (.dat (.tuple (xs.map enc)))) (hl : Ev X A lo (.dat (.int i))) (hu : Ev X A hi (.dat (.int j))) (h0 : 0 ≤ i) (h1 : 0 ≤ j) : Ev X A (.Subscript e (.Slice (some lo) (some hi) none p2) pos) (.dat (.tuple (((xs.drop i.toNat).take (j.toNat - i.toNat)).map enc))) := by
  obtain ⟨k, rfl⟩ := Int.eq_ofNat_of_zero_le h0
  obtain ⟨l, rfl⟩ := Int.eq_ofNat_of_zero_le h1
  exact ev_eq (ev_slT h (evo_some hl) (evo_some hu)) (by rw [cut_range, Int.toNat_natCast, Int.toNat_natCast, List.map_take, List.map_drop])
theorem ev_takeL {i : Int} (h : EvS X A e true (xs.map enc)) (hu : Ev X A hi (.dat (.int i))) (h0 : 0 ≤ i) : Ev X A (.Subscript e (.Slice none (some hi) none p2) pos) (.own (.lst ((xs.take i.toNat).map enc))) := by
  obtain ⟨k, rfl⟩ := Int.eq_ofNat_of_zero_le h0
  exact ev_eq (ev_slL h evo_none (evo_some hu)) (by rw [cut_to, Int.toNat_natCast, List.map_take])
theorem ev_dropL {i : Int} (h : EvS X A e true (xs.map enc)) (hu : Ev X A lo (.dat (.int i))) (h0 : 0 ≤ i) : Ev X A (.Subscript e (.Slice (some lo) none none p2) pos) (.own (.lst ((xs.drop i.toNat).map enc))) := by
  obtain ⟨k, rfl⟩ := Int.eq_ofNat_of_zero_le h0
  exact ev_eq (ev_slL h (evo_some hu) evo_none) (by rw [cut_from, Int.toNat_natCast, List.map_drop])
theorem ev_midL {i j : Int} (h : EvS X A e true (xs.map enc)) (hl : Ev X A lo (.dat (.int i))) (hu : Ev X A hi (.dat (.int j))) (h0 : 0 ≤ i) (h1 : 0 ≤ j) : Ev X A (.Subscript e (.Slice (some lo) (some hi) none p2) pos) (.own (.lst (((xs.drop i.toNat).take (j.toNat - i.toNat)).map enc))) := by
  obtain ⟨k, rfl⟩ := Int.eq_ofNat_of_zero_le h0
  obtain ⟨l, rfl⟩ := Int.eq_ofNat_of_zero_le h1
  exact ev_eq (ev_slL h (evo_some hl) (evo_some hu)) (by rw [cut_range, Int.toNat_natCast, Int.toNat_natCast, List.map_take, List.map_drop])
theorem ev_mulW {a b : Expr} {i j : Int} (h1 : Ev X A a (.dat (.int i))) (h2 : Ev X A b (.dat (.int j))) (hc : CMulW i j) : Ev X A (.BinOp a .Mult b pos) (.dat (.int (i * j))) := ev_op op_mulW h1 h2 (bI hc fun _ => .int _)
theorem ev_divW {a b : Expr} {i j : Int} (h1 : Ev X A a (.dat (.int i))) (h2 : Ev X A b (.dat (.int j))) (hc : CDivW i j) : Ev X A (.BinOp a .FloorDiv b pos) (.dat (.int (i / j))) := ev_op op_fdivW h1 h2 (bI hc fun _ => .int _)
theorem ixM {i : Int} (z : α) (h0 : 0 ≤ i) (h1 : i < xs.length) : IxD (xs.map enc) i (enc (xs.getD i.toNat z)) := .lit (by
  obtain ⟨k, rfl⟩ := Int.eq_ofNat_of_zero_le h0
  have h2 : k < xs.length := by omega
  refine atI_nat ?_
  rw [List.getElem?_map, Int.toNat_natCast, List.getElem?_eq_getElem h2, List.getD_eq_getElem?_getD, List.getElem?_eq_getElem h2]
  rfl)
end
end LR

set_option Elab.async false
set_option linter.all false
set_option maxRecDepth 100000
set_option maxHeartbeats 4000000
/-! The layer LR, part m: x in xs of encoded data, the first of a list at which a thing holds. -/
namespace LR
open PySem PySem.Spec PyProof.Rows L2

theorem find_first {α : Type} (p : α → Bool) : ∀ xs : List α, (xs.find? p = none ∧ ∀ (i : Nat) (h : i < xs.length), p xs[i] = false) ∨ ∃ (k : Nat) (h : k < xs.length), (∀ (i : Nat) (h : i < xs.length), i < k → p xs[i] = false) ∧ p xs[k] = true ∧ xs.find? p = some xs[k]
  | [] => .inl ⟨rfl, fun i h => by simp at h⟩
  | x :: r => by
    cases hx : p x with
    | true => exact .inr ⟨0, by simp, fun i _ h => by omega, hx, by rw [List.find?_cons, hx]; rfl⟩
    | false =>
      rcases find_first p r with ⟨a, b⟩ | ⟨k, hk, a, b, c⟩
      · refine .inl ⟨by rw [List.find?_cons, hx]; exact a, fun i h => ?_⟩
        cases i with
        | zero => exact hx
        | succ i => exact b i (by simpa using h)
      · refine .inr ⟨k + 1, by simpa using hk, fun i h hi => ?_, b, by rw [List.find?_cons, hx]; exact c⟩
        cases i with
        | zero => exact hx
        | succ i => exact a i (by simpa using h) (by omega)
section
variable {X : Cx} {a b : Expr} {A : List C} {pos : Pos}
theorem any_eqv {α : Type} [DecidableEq α] {enc : α → PyData} {dd : Nat} (E : Enc enc dd) (x : α) (xs : List α) : ((xs.map enc).any fun z => PyData.eqv z (enc x)) = decide (x ∈ xs) := by
  rw [Bool.eq_iff_iff, List.any_eq_true, decide_eq_true_eq]
  constructor
  · rintro ⟨z, hz, e⟩
    obtain ⟨y, hy, rfl⟩ := List.mem_map.mp hz
    rw [E.eqv, decide_eq_true_eq] at e
    rw [← e]; exact hy
  · exact fun h => ⟨enc x, List.mem_map.mpr ⟨x, h, rfl⟩, by rw [E.eqv]; exact decide_eq_true rfl⟩
theorem cmpR_in {α : Type} [DecidableEq α] {enc : α → PyData} {dd : Nat} {k : Nat} {x : α} {xs : List α} (hr : Room k X.A) (E : Enc enc dd) (hd : dd ≤ 62) (hm : behindInMarks .In b = false := by rfl) : CmpR X .In b (enc x) (.list (xs.map enc)) (decide (x ∈ xs)) :=
  ⟨_, op_inD (by have := hr.un; omega), bin_val fun I H v w s h1 h2 Q q => ⟨enc x, xs.map enc, (dp_mono s h1).kit, (dp_mono s h2).kit, E.shaped (by omega) x, E.lst.shaped (by omega) xs, q _ (by rw [any_eqv E]; exact .bl _)⟩, hm⟩
theorem cmpR_nin {α : Type} [DecidableEq α] {enc : α → PyData} {dd : Nat} {k : Nat} {x : α} {xs : List α} (hr : Room k X.A) (E : Enc enc dd) (hd : dd ≤ 62) (hm : behindInMarks .NotIn b = false := by rfl) : CmpR X .NotIn b (enc x) (.list (xs.map enc)) (!decide (x ∈ xs)) :=
  ⟨_, op_notInD (by have := hr.un; omega), bin_val fun I H v w s h1 h2 Q q => ⟨enc x, xs.map enc, (dp_mono s h1).kit, (dp_mono s h2).kit, E.shaped (by omega) x, E.lst.shaped (by omega) xs, q _ (by rw [any_eqv E]; exact .bl _)⟩, hm⟩
def isNone : PyData → Bool
  | .none => true
  | _ => false
theorem dp_isN {K : PySem.W.Frag} {H : Hp} {v : V} {d : PyData} (h : Dp K H v d) : decide (v = .non) = isNone d := by
  cases h <;> simp [isNone]
theorem cmpR_isN {d : PyData} : CmpR X .Is b d .none (isNone d) := ⟨_, op_isN, bin_val fun I H v w s h1 h2 Q q => ⟨dp_none h2, by rw [dp_isN h1]; exact q _ (.bl _)⟩, nomark _⟩
theorem cmpR_notN {d : PyData} : CmpR X .IsNot b d .none (!isNone d) := ⟨_, op_notN, bin_val fun I H v w s h1 h2 Q q => ⟨dp_none h2, by rw [dp_isN h1]; exact q _ (.bl _)⟩, nomark _⟩
end
end LR

set_option Elab.async false
set_option linter.all false
set_option maxRecDepth 100000
set_option maxHeartbeats 4000000
/-! The layer LR, part n: a, b = x, y of names; an expression alone; reversed tuples; zip of tuples; the first turn at which a test fails. -/
namespace LR
open PySem PySem.Spec PyProof.Rows L2

/-- the first place at which p fails -/
theorem first_not (p : Nat → Bool) : ∀ m : Nat, p m = false → ∃ k, k ≤ m ∧ (∀ i, i < k → p i = true) ∧ p k = false
  | 0, h => ⟨0, Nat.le_refl _, fun i hi => absurd hi (Nat.not_lt_zero _), h⟩
  | m + 1, h => by
    cases h0 : p 0 with
    | false => exact ⟨0, Nat.zero_le _, fun i hi => absurd hi (Nat.not_lt_zero _), h0⟩
    | true =>
      obtain ⟨k, a, b, c⟩ := first_not (fun i => p (i + 1)) m h
      refine ⟨k + 1, by omega, fun i hi => ?_, c⟩
      cases i with
      | zero => exact h0
      | succ i => exact b i (by omega)
theorem swp {x y : Str} {f g : Expr} {px py pt pt2 : Pos} {kt k2} (env : Env) (hxy : (y == x) = false) (hl : (py.line == px.line) = true) (hf : ∀ v q, f ≠ .Starred v q) (hg : ∀ v q, g ≠ .Starred v q)
  (h1 : [f, g].all (foldedForSure 8) = false) (h2 : [f, g].all (constantsAlone 8) = false) (hb : env.blockKind = .function) (kx : env.kindOf x = some .local) (ky : env.kindOf y = some .local) : swappedStores [.Tuple [.Name x px, .Name y py] kt pt] (.Tuple [f, g] k2 pt2) env = pure (some [x, y]) := by
  have e1 : (x == y) = false := by
    rw [beq_eq_false_iff_ne] at hxy ⊢
    exact fun z => hxy z.symm
  have e2 : (env.blockKind != .function) = false := by rw [hb]; rfl
  have e3 : ([x, y] : List Str).eraseDups = [x, y] := by
    simp [List.eraseDups_cons, hxy, e1]
  unfold swappedStores
  simp only [List.length_cons, List.length_nil, e2, List.filterMap_cons, List.filterMap_nil, kx, ky, hl, Expr.pos, List.head?_cons, Option.map_some, Option.getD_some, beq_self_eq_true, Bool.and_self, Bool.true_and, if_true, e3, h1, h2, bne_self_eq_false, Bool.or_false, Bool.not_true, Bool.or_self, Bool.false_eq_true, if_false, Nat.zero_add, Nat.reduceAdd]
  split
  · next h => exact absurd h (by decide)
  · split
    · next h =>
      rw [List.any_eq_true] at h
      obtain ⟨z, hz, h⟩ := h
      split at h
      · rcases List.mem_cons.mp hz with q | q
        · exact absurd q.symm (hf _ _)
        · exact absurd (List.mem_singleton.mp q).symm (hg _ _)
      · cases h
    · rfl
section
variable {P : Program} {w : World} {K : PySem.W.Frag} {mg : Str → Option Value} {base : Heap} {N : List Str} {sc : Scope} {k : Nat}
variable {X : Cx} {e a b : Expr} {es : List Expr} {A : List C} {pos p p2 : Pos} {x y : Str}
theorem walks_revT {K : PySem.W.Frag} {I1 : Hp} {q : Addr} {vs : List V} {src : List PyData} (hs : SqT K I1 q vs) (ha : DpAll K I1 vs src) : Walks K (RT.ItvT K q vs.length) I1 src.reverse := by
  have hl := dpAll_len ha
  refine ⟨fun i d e I2 H2 s1 s2 => ?_, fun I2 H2 s1 s2 => by show vs.length ≤ _; rw [List.length_reverse, hl]; exact Nat.le_refl _⟩
  have hi : i < src.length := by
    by_cases h : i < src.length
    · exact h
    · rw [List.getElem?_eq_none (by rw [List.length_reverse]; omega)] at e; cases e
  rw [List.getElem?_reverse hi] at e
  obtain ⟨v, e1, e2⟩ := dpAll_get ha e
  rw [← hl] at e1
  refine ⟨⟨by omega, vs, v, same_t (s1.trans s2) hs, e1⟩, fun z H3 ⟨e3, f⟩ => ?_⟩
  subst e3
  have e4 : z = v := Option.some.inj ((f _ (same_t (s1.trans s2) hs)).symm.trans e1)
  subst e4
  exact ⟨I2, .refl s2, dp_mono s1 e2⟩
theorem ei_revT {tg : Expr} {src : List PyData} (hg : Gl X "reversed") (hm : X.mg "reversed" = none) (h : Ev X A e (.dat (.tuple src))) (hs : starEach (e :: []) X.env = (false, eval e X.env) :: starEach [] X.env := by rfl) : EvI X A tg (.Call (.Name "reversed" p) [e] [] pos) src.reverse := ⟨_, RT.pi_revA hg hm wx_pe (hs := hs), fun I0 H0 σ I H rl R q => h I0 H0 σ I H rl _ fun v I1 H1 g hv => by
  obtain ⟨a, vs, rfl, hs, ha⟩ := dp_tup (show Dp X.K I1 v (.tuple src) from hv)
  exact ⟨a, vs, rfl, .inr ⟨same_t g.ih hs, q _ I1 H1 g (walks_revT hs ha)⟩⟩⟩
/-- an expression alone -/
theorem s1_expr {c : C} (h : Ev X A e c) (hs : swapsWith e none pos.line X.env = pure false := by rfl) : S1 X A (.Expr e pos) (.nx A) := fun I0 H0 σ I H rl D f =>
  ws_of (ps_expr wx_pe hs) (h I0 H0 σ I H rl _ fun v I1 H1 g _ => f σ I1 H1 g.ii (rl.grow g))
variable (hX : XF P w K mg base N sc k X)
include hX
theorem revTF {tg : Expr} {α : Type} {enc : α → PyData} {xs : List α} (hg : GlS sc "reversed") (hm : mg "reversed" = none) (h : Ev X A e (.dat (.tuple (xs.map enc)))) (hs : starEach (e :: []) X.env = (false, eval e X.env) :: starEach [] X.env := by rfl) : EvI X A tg (.Call (.Name "reversed" p) [e] [] pos) (xs.reverse.map enc) := by
  rw [List.map_reverse]
  exact ei_revT (hX.gl hg) (by rw [hX.eM]; exact hm) h hs
/-- a, b = e, f of two names -/
theorem parF {i j : Nat} {f g : Expr} {d1 d2 : PyData} {px py pt pt2 : Pos} {kt k2} (hi : N[i]? = some x) (hj : N[j]? = some y) (hij : i ≠ j) (hx : sc.names.lookup x = some .local) (hy : sc.names.lookup y = some .local) (ha : EvA X A [f, g] [d1, d2]) (hAi : A[i]?.isSome = true) (hAj : A[j]?.isSome = true)
    (hk : sc.kind = .function) (hxy : (y == x) = false) (hl : (py.line == px.line) = true) (hf : ∀ v q, f ≠ .Starred v q) (hg : ∀ v q, g ≠ .Starred v q) (h1 : [f, g].all (foldedForSure 8) = false) (h2 : [f, g].all (constantsAlone 8) = false)
    (hs : swapsWithSole [.Tuple [.Name x px, .Name y py] kt pt] (.Tuple [f, g] k2 pt2) pos.line X.env = pure false := by rfl) :
    S1 X A (.Assign [.Tuple [.Name x px, .Name y py] kt pt] (.Tuple [f, g] k2 pt2) pos) (.nx ((A.set i (.dat d1)).set j (.dat d2))) := fun I0 H0 σ I H rl D fn =>
  ws_of (ps_par hX.calm hX.ndX (by rw [hX.eN]; exact hi) (by rw [hX.eN]; exact hj) hij (by rw [hX.eS]; exact hx) (by rw [hX.eS]; exact hy) wa_pa (swp X.env hxy hl hf hg h1 h2 (by unfold Env.blockKind; rw [hX.eS, hk]; rfl) (by unfold Env.kindOf; rw [hX.eS]; exact hx) (by unfold Env.kindOf; rw [hX.eS]; exact hy)) hs) (ha I0 H0 σ I H rl _ fun vs I1 H1 g hv => by
    cases hv with
    | cons h1 h2 => cases h2 with
      | cons h2 h3 =>
        cases h3
        refine ⟨_, _, rfl, fn _ I1 H1 g.ii ?_⟩
        have r1 := rel_set (rl.grow g) h1 (lt_of_some hAi)
        refine rel_set r1 h2 ?_
        rw [List.length_set]
        exact lt_of_some hAj)
end
end LR

set_option Elab.async false
set_option linter.all false
set_option maxRecDepth 100000
set_option maxHeartbeats 4000000
/-! The layer LR, part o: try .. except X as e, isinstance of the caught one. -/
namespace LR
open PySem PySem.Spec PyProof.Rows L2

/-- isinstance(e, (X, ..)), e the exception that the suite holds -/
def rIsE2 (K : PySem.W.Frag) (D a : Addr) : List V → Hp → VK → Prop := fun xs H Q => ∃ (tp : Addr) (vs : List V) (b : Bool), xs = [.ref a, .ref tp] ∧ SqT K H tp vs ∧ (∀ us, Vals vs us → PySem.W.kitAny K (.ref D) us = some b) ∧ Q (.bl b) H
theorem call_isE2 {X : Cx} {a D : Addr} {oe : Obj} {pn : List (Addr × Obj)} (C : ExcC X.K D) (hz : Zc (.ref D) none oe) (hf : ∃ vs, oe.data = .fields vs) : CallR (X.suite a ((a, oe) :: pn)) (.builtin "isinstance") (rIsE2 X.K D a) := by
  intro pins s σ H xs us Q I r h
  obtain ⟨tp, vs, b, rfl, hT, e, q⟩ := h
  cases r with
  | cons rx rr =>
    cases rr with
    | cons rt rr =>
      cases rr
      cases rx
      cases rt
      obtain ⟨hget, _⟩ := I.pin (a, oe) (List.mem_append.mpr (.inl List.mem_cons_self))
      obtain ⟨vs', hv⟩ := hf
      have J : PySem.W.InstAt s.heap a oe D none := by
        obtain ⟨oc, od, oda, osl⟩ := oe
        obtain ⟨h1, h2⟩ := hz
        dsimp only at h1 h2 hv
        subst h1 h2 hv
        exact ⟨hget, rfl, rfl, trivial⟩
      obtain ⟨its, rv, ⟨⟨cls, dd, data, sl⟩, ho, hc, n, hd⟩, hs⟩ := I.tuple hT
      simp only at hc hd
      subst hc hd
      exact PySem.W.kia_tup (PySem.W.handS_kitx_exc C.hg C.hk C.hs C.hd C.ha C.hn C.ht C.hm) I.kIn J ho (e _ rv) (fun z => nomatch z) fun tk => ⟨.bl b, H, I.kept (t' := tk) fun _ _ z => z, rfl, q⟩
/-- what is told of a context in which an exception is handled -/
structure XS (P : Program) (w : World) (K : PySem.W.Frag) (mg : Str → Option Value) (N : List Str) (sc : Scope) (D : Addr) (a : Addr) (X : Cx) : Prop where
  eP : X.prog = P
  eW : X.w = w
  eK : X.K = K
  eM : X.mg = mg
  eN : X.N = N
  eS : X.env.scope = sc
  nd : N.Nodup
  is : CallR X (.builtin "isinstance") (rIsE K D a)
  is2 : CallR X (.builtin "isinstance") (rIsE2 K D a)
  fn : ∀ x, X.fn x = true
section
variable {P : Program} {w : World} {K : PySem.W.Frag} {mg : Str → Option Value} {base : Heap} {N : List Str} {sc : Scope} {k : Nat}
variable {X : Cx} {e a b : Expr} {es : List Expr} {A : List C} {pos p p2 : Pos} {x y : Str} {D ad : Addr}
theorem XF.tr (hX : XF P w K mg base N sc k X) {pn : List (Addr × Obj)} {xe : Value → Shared → Prop} (hp : PassesOwn (model X.prog X.w) X.A X.env xe) : XF P w K mg base N sc k (X.tr pn xe) where
  eP := hX.eP
  eW := hX.eW
  eK := hX.eK
  eM := hX.eM
  eB := hX.eB
  eN := hX.eN
  eS := hX.eS
  calm := hX.calm
  nd := hX.nd
  room := hX.room
  pass := hp
theorem XT.tr (hT : XT X) {pn : List (Addr × Obj)} {xe : Value → Shared → Prop} : XT (X.tr pn xe) := ⟨hT.stack, hT.frame, hT.fn⟩
variable (hX : XF P w K mg base N sc k X) (hT : XT X)
include hX hT
/-- a try whose body runs through -/
theorem tryN {body suite : List Stmt} {b₀ : Stmt} {np pos' : Pos} {n : Str} {i : Nat} {cl : Addr} {o : Out} (hN : N[i]? = some n) (hln : sc.names.lookup n = some .local) (hg : GlS sc x) (hm : mg x = some (.ref cl)) (hdb : (x == ("__debug__" : Str)) = false) (ho : ∀ z A1, o ≠ .ex z A1)
    (hb : ∀ Y, XF P w K mg base N sc k Y → XT Y → Sm Y A body o) : S1 X A (.Try body [.ExceptHandler (some (.Name x np)) (some n) (b₀ :: suite) pos'] [] [] pos) o := fun I0 H0 σ I H rl D f => by
  refine ws_of (ps_try_as (i := i) (tb := fun W D σ H => ∀ pn xe, Takes (X.tr pn xe) W → PassesOwn (model X.prog X.w) X.A X.env xe → Wss (X.tr pn xe) body D σ H) (ts := fun a cls d D σ H => ∀ oe pn, Zc cls d oe → (∃ vs, oe.data = .fields vs) → Wss (X.suite a ((a, oe) :: pn)) (b₀ :: suite) D σ H) (Wout := fun _ _ _ _ => False)
    hT.stack hT.frame hX.ndX (by rw [hX.eN]; exact hN) (by unfold Env.kindOf; rw [hX.eS]; exact hln) ⟨hX.gl hg, hdb, .inl (by rw [hX.eM]; exact hm)⟩ takes0 (fun W pn xe tk hp => ⟨fun pins s σ H D I h => h pn xe tk hp pins s I⟩) (fun a oe cls d pn hz hf => ⟨fun pins s σ H D I h => h oe pn hz hf pins s I⟩)) ?_
  intro pn xe tk hp
  refine hb _ (hX.tr hp) hT.tr I0 H0 σ I H rl D ?_
  cases o with
  | nx A1 => exact f
  | rt c => exact f
  | bk A1 => exact f
  | ex z A1 => exact absurd rfl (ho z A1)
/-- a try whose body raises what is caught -/
theorem tryX {body suite : List Stmt} {b₀ : Stmt} {np pos' : Pos} {n z : Str} {i : Nat} {cl D : Addr} {A1 A2 : List C} (hN : N[i]? = some n) (hln : sc.names.lookup n = some .local) (hg : GlS sc x) (hm : mg x = some (.ref cl)) (hdb : (x == ("__debug__" : Str)) = false) (hz : mg z = some (.ref D)) (he : PySem.W.exmOne K (.ref D) (.ref cl) = some true) (hE : ExcC K D) (hi : A1[i]?.isSome = true)
    (hb : ∀ Y, XF P w K mg base N sc k Y → XT Y → Sm Y A body (.ex z A1)) (hs : ∀ Y a, XS P w K mg N sc D a Y → Sm Y (A1.set i (.rf a)) (b₀ :: suite) (.nx A2)) :
    S1 X A (.Try body [.ExceptHandler (some (.Name x np)) (some n) (b₀ :: suite) pos'] [] [] pos) (.nx (A2.set i .un)) := fun I0 H0 σ I H rl Dn f => by
  refine ws_of (ps_try_as (i := i) (tb := fun W D σ H => ∀ pn xe, Takes (X.tr pn xe) W → PassesOwn (model X.prog X.w) X.A X.env xe → Wss (X.tr pn xe) body D σ H) (ts := fun a cls d D σ H => ∀ oe pn, Zc cls d oe → (∃ vs, oe.data = .fields vs) → Wss (X.suite a ((a, oe) :: pn)) (b₀ :: suite) D σ H) (Wout := fun _ _ _ _ => False)
    hT.stack hT.frame hX.ndX (by rw [hX.eN]; exact hN) (by unfold Env.kindOf; rw [hX.eS]; exact hln) ⟨hX.gl hg, hdb, .inl (by rw [hX.eM]; exact hm)⟩ takes0 (fun W pn xe tk hp => ⟨fun pins s σ H D I h => h pn xe tk hp pins s I⟩) (fun a oe cls d pn hz hf => ⟨fun pins s σ H D I h => h oe pn hz hf pins s I⟩)) ?_
  intro pn xe tk hp
  refine hb _ (hX.tr hp) hT.tr I0 H0 σ I H rl Dn ⟨_, tk, fun σ1 I1 H1 s1 r1 c hc => ?_⟩
  have hc : X.mg z = some (.ref c) := hc
  rw [hX.eM, hz] at hc
  cases hc
  refine ⟨true, by rw [hX.eK]; exact he, fun _ a ha oe pn2 hzc hf => ?_, fun q => Bool.noConfusion q⟩
  have r1 : Rel X.K I0 H0 A1 σ1 I1 H1 := r1
  have hE' : ExcC X.K D := by rw [hX.eK]; exact hE
  have xs : XS P w K mg N sc D a (X.suite a ((a, oe) :: pn2)) := ⟨hX.eP, hX.eW, hX.eK, hX.eM, hX.eN, hX.eS, hX.nd, by
    have q := call_isE (X := X) (pn := pn2) (a := a) hE' hzc hf
    rw [hX.eK] at q
    exact q, by
    have q := call_isE2 (X := X) (pn := pn2) (a := a) hE' hzc hf
    rw [hX.eK] at q
    exact q, hT.fn⟩
  refine hs _ a xs I0 H0 _ I1 H1 (rel_rf r1 (lt_of_some hi)) _ fun σ2 I2 H2 s2 r2 => ?_
  exact f _ I2 H2 (s1.trans s2) (rel_un r2)
omit hX hT
variable (hS : XS P w K mg N sc D ad X)
include hS
theorem isE_own (i : Nat) {n T : Str} {c : Addr} {bb : Bool} {p1 : Pos} (hN : N[i]? = some n) (hA : A[i]? = some (.rf ad)) (hv : Vis sc n) (hd : (n == ("__debug__" : Str)) = false) (hcd : (n == ("__classdict__" : Str)) = false) (hg : GlS sc "isinstance") (hm : mg "isinstance" = none) (hgT : GlS sc T) (hmT : mg T = some (.ref c))
    (hdT : (T == ("__debug__" : Str)) = false) (hk : PySem.W.kitOne K (.ref D) (.ref c) = some bb) (hs : starEach (.Name n p1 :: [.Name T p2]) X.env = (false, eval (.Name n p1) X.env) :: starEach [.Name T p2] X.env := by rfl) (hs2 : starEach [.Name T p2] X.env = (false, eval (.Name T p2) X.env) :: starEach [] X.env := by rfl) (hpl : (backTo pos (starEach [.Name T p2] X.env)).any (·.1) = false := by rfl)
    (hb : bootBuiltins "isinstance" = some (.builtin "isinstance") := by decide +kernel) : Ev X A (.Call (.Name "isinstance" p) [.Name n p1, .Name T p2] [] pos) (.dat (.bool bb)) := fun I0 H0 σ I H rl Q q =>
  have gl : ∀ {z : Str}, GlS sc z → Gl X z := fun h => by unfold Gl Env.kindOf; rw [hS.eS]; exact h
  wx_of (pe_callB hS.is (gl hg) (by rw [hS.eM]; exact hm) hb (pa_cons (pe_var (i := i) (by rw [hS.eN]; exact hN) (by rw [hS.eS]; exact hv) hd hcd) (pa_cons (pe_glob (v := .ref c) (gl hgT) (by rw [hS.eM]; exact hmT) rfl hdT) pa_nil hs2) hs) (by decide) (by decide) hs hpl)
    ⟨.ref ad, rl.cell i _ hA, .ref c, .ref c, bb, rfl, fun u hu => hu, hk, q _ I H (.refl rl.ih) (Dp.bl _)⟩
theorem isE_ty (i : Nat) {n : Str} {T : String} {bb : Bool} {p1 : Pos} (hN : N[i]? = some n) (hA : A[i]? = some (.rf ad)) (hv : Vis sc n) (hd : (n == ("__debug__" : Str)) = false) (hcd : (n == ("__classdict__" : Str)) = false) (hg : GlS sc "isinstance") (hm : mg "isinstance" = none) (hgT : GlS sc (Str.ofString T)) (hmT : mg (Str.ofString T) = none)
    (hbT : bootBuiltins (Str.ofString T) = some (.type T)) (hn : Str.ofString T ≠ "__name__") (hdT : (Str.ofString T == ("__debug__" : Str)) = false) (hk : PySem.W.kitOne K (.ref D) (.type T) = some bb) (hs : starEach (.Name n p1 :: [.Name (Str.ofString T) p2]) X.env = (false, eval (.Name n p1) X.env) :: starEach [.Name (Str.ofString T) p2] X.env := by rfl) (hs2 : starEach [.Name (Str.ofString T) p2] X.env = (false, eval (.Name (Str.ofString T) p2) X.env) :: starEach [] X.env := by rfl) (hpl : (backTo pos (starEach [.Name (Str.ofString T) p2] X.env)).any (·.1) = false := by rfl)
    (hb : bootBuiltins "isinstance" = some (.builtin "isinstance") := by decide +kernel) : Ev X A (.Call (.Name "isinstance" p) [.Name n p1, .Name (Str.ofString T) p2] [] pos) (.dat (.bool bb)) := fun I0 H0 σ I H rl Q q =>
  have gl : ∀ {z : Str}, GlS sc z → Gl X z := fun h => by unfold Gl Env.kindOf; rw [hS.eS]; exact h
  wx_of (pe_callB hS.is (gl hg) (by rw [hS.eM]; exact hm) hb (pa_cons (pe_var (i := i) (by rw [hS.eN]; exact hN) (by rw [hS.eS]; exact hv) hd hcd) (pa_cons (pe_bltn (v := .ty T) (gl hgT) (by rw [hS.eM]; exact hmT) hbT rfl hn hdT) pa_nil hs2) hs) (by decide) (by decide) hs hpl)
    ⟨.ref ad, rl.cell i _ hA, .ty T, .type T, bb, rfl, fun u hu => hu, hk, q _ I H (.refl rl.ih) (Dp.bl _)⟩
theorem nmS (i : Nat) {d : PyData} (hN : N[i]? = some x) (hA : A[i]? = some (.dat d)) (hv : Vis sc x) (hd : (x == ("__debug__" : Str)) = false) (hcd : (x == ("__classdict__" : Str)) = false) : Ev X A (.Name x pos) (.dat d) :=
  ev_name i (by rw [hS.eN]; exact hN) hA (by rw [hS.eS]; exact hv) hd hcd
theorem ownlS (i : Nat) {ds : List PyData} (hN : N[i]? = some x) (hA : A[i]? = some (.own (.lst ds))) (hv : Vis sc x) (hd : (x == ("__debug__" : Str)) = false) (hcd : (x == ("__classdict__" : Str)) = false) : EvL X A (.Name x pos) ds :=
  evl_own i (by rw [hS.eN]; exact hN) hA (by rw [hS.eS]; exact hv) hd hcd
theorem setS (j : Nat) {c : C} {pos' : Pos} (hN : N[j]? = some x) (hx : L2.Loc sc x) (he : Ev X A e c) (hj : A[j]?.isSome = true) (hs : swapsWith e (some (.Name x pos')) pos.line X.env = pure false := by rfl) : S1 X A (.Assign [.Name x pos'] e pos) (.nx (A.set j c)) :=
  s1_set j (by rw [hS.eN]; exact hS.nd) (by rw [hS.eN]; exact hN) (by rw [hS.eS]; exact hx) he hj rfl hs (.inl (hS.fn _))
omit hS
/-- names of classes -/
def ClsA (X : Cx) (es : List Expr) (vs : List V) : Prop := ∀ σ H (Q : List V → Hp → Prop), Q vs H → Wa X es σ H Q
theorem clsA_nil : ClsA X [] [] := fun σ H Q q => wa_of pa_nil q
include hS
theorem clsA_cons {T : Str} {c : Addr} {vs : List V} {p1 : Pos} (hgT : GlS sc T) (hmT : mg T = some (.ref c)) (hdT : (T == ("__debug__" : Str)) = false) (h : ClsA X es vs) (hs : starEach (.Name T p1 :: es) X.env = (false, eval (.Name T p1) X.env) :: starEach es X.env := by rfl) : ClsA X (.Name T p1 :: es) (.ref c :: vs) := fun σ H Q q =>
  have gl : ∀ {z : Str}, GlS sc z → Gl X z := fun h => by unfold Gl Env.kindOf; rw [hS.eS]; exact h
  wa_of (pa_cons (pe_glob (v := .ref c) (gl hgT) (by rw [hS.eM]; exact hmT) rfl hdT) wa_pa hs) (h σ H _ q)
theorem isE_tup (i : Nat) {n : Str} {vs : List V} {bb : Bool} {p1 : Pos} {k1} (hN : N[i]? = some n) (hA : A[i]? = some (.rf ad)) (hv : Vis sc n) (hd : (n == ("__debug__" : Str)) = false) (hcd : (n == ("__classdict__" : Str)) = false) (hg : GlS sc "isinstance") (hm : mg "isinstance" = none) (hc : ClsA X es vs) (hz : vs.length ≤ sizeLine)
    (hk : ∀ us, Vals vs us → PySem.W.kitAny K (.ref D) us = some bb) (hs : starEach (.Name n p1 :: [.Tuple es k1 p2]) X.env = (false, eval (.Name n p1) X.env) :: starEach [.Tuple es k1 p2] X.env := by rfl) (hs2 : starEach [.Tuple es k1 p2] X.env = (false, eval (.Tuple es k1 p2) X.env) :: starEach [] X.env := by rfl) (hpl : (backTo pos (starEach [.Tuple es k1 p2] X.env)).any (·.1) = false := by rfl)
    (hb : bootBuiltins "isinstance" = some (.builtin "isinstance") := by decide +kernel) : Ev X A (.Call (.Name "isinstance" p) [.Name n p1, .Tuple es k1 p2] [] pos) (.dat (.bool bb)) := fun I0 H0 σ I H rl Q q =>
  have gl : ∀ {z : Str}, GlS sc z → Gl X z := fun h => by unfold Gl Env.kindOf; rw [hS.eS]; exact h
  wx_of (pe_callB hS.is2 (gl hg) (by rw [hS.eM]; exact hm) hb (pa_cons (pe_var (i := i) (by rw [hS.eN]; exact hN) (by rw [hS.eS]; exact hv) hd hcd) (pa_cons (pe_tup wa_pa) pa_nil hs2) hs) (by decide) (by decide) hs hpl)
    ⟨.ref ad, rl.cell i _ hA, hc σ H _ ⟨hz, fun t ht => ⟨t, vs, bb, rfl, .inl (.inl upd_same), hk, q _ I _ (Grow.newH rl.ih ht) (Dp.bl _)⟩⟩⟩
end
/-! what the ends tell of exception classes -/
/-- instances of the class x may be asked for their class -/
def XD (K : PySem.W.Frag) (mg : Str → Option Value) (x : Str) : Prop := ∃ d, mg x = some (.ref d) ∧ ExcC K d
/-- whether an instance of x is one of y -/
def XO (K : PySem.W.Frag) (mg : Str → Option Value) (x y : Str) (b : Bool) : Prop := ∃ d c, mg x = some (.ref d) ∧ mg y = some (.ref c) ∧ PySem.W.kitOne K (.ref d) (.ref c) = some b
def XV (K : PySem.W.Frag) (mg : Str → Option Value) (x : Str) (y : String) (b : Bool) : Prop := ∃ d, mg x = some (.ref d) ∧ PySem.W.kitOne K (.ref d) (.type y) = some b
/-- except y takes x -/
def XM (K : PySem.W.Frag) (mg : Str → Option Value) (x y : Str) : Prop := ∃ d c, mg x = some (.ref d) ∧ mg y = some (.ref c) ∧ PySem.W.exmOne K (.ref d) (.ref c) = some true
end LR

set_option Elab.async false
set_option linter.all false
set_option maxRecDepth 100000
set_option maxHeartbeats 4000000
/-! The layer LR, part p: what raises within an expression. -/
namespace LR
open PySem PySem.Spec PyProof.Rows L2

/-- one of the arguments raises x -/
def EvAX (X : Cx) (A : List C) (es : List Expr) (x : Str) : Prop := ∀ I0 H0 σ I H, Rel X.K I0 H0 A σ I H → ∀ W : WX, Takes X W → (∀ I' H', Grow I H I' H' → ∀ c, X.mg x = some (.ref c) → W (.ref c) none σ H') → ∀ Q : List V → Hp → Prop, Wa X es σ H Q
section
variable {X : Cx} {e a b : Expr} {es : List Expr} {A : List C} {pos p p2 : Pos} {x y : Str}
theorem eax_here (h : EvX X A e x) (hs : starEach (e :: es) X.env = (false, eval e X.env) :: starEach es X.env := by rfl) : EvAX X A (e :: es) x := fun I0 H0 σ I H rl W tk q Q =>
  wa_of (pa_cons wx_pe wa_pa hs) (h I0 H0 σ I H rl W tk q _)
theorem eax_next {d : PyData} (h1 : Ev X A e (.dat d)) (h : EvAX X A es x) (hs : starEach (e :: es) X.env = (false, eval e X.env) :: starEach es X.env := by rfl) : EvAX X A (e :: es) x := fun I0 H0 σ I H rl W tk q Q =>
  wa_of (pa_cons wx_pe wa_pa hs) (h1 I0 H0 σ I H rl _ fun v I1 H1 g1 hv => h I0 H0 σ I1 H1 (rl.grow g1) W tk (fun I2 H2 g2 c hc => q I2 H2 (g1.trans g2) c hc) _)
theorem evx_tup {k} (h : EvAX X A es x) : EvX X A (.Tuple es k pos) x := fun I0 H0 σ I H rl W tk q Q =>
  wx_of (pe_tup wa_pa) (h I0 H0 σ I H rl W tk q _)
/-- e, alone, raises -/
theorem s1_exprX (h : EvX X A e x) (hs : swapsWith e none pos.line X.env = pure false := by rfl) : S1 X A (.Expr e pos) (.ex x A) := fun I0 H0 σ I H rl D f => by
  obtain ⟨W, tk, f⟩ := f
  exact ws_of (ps_expr wx_pe hs) (h I0 H0 σ I H rl W tk (fun I1 H1 g c hc => f σ I1 H1 g.ii (rl.grow g) c hc) _)
theorem s1_retX (h : EvX X A e x) : S1 X A (.Return (some e) pos) (.ex x A) := fun I0 H0 σ I H rl D f => by
  obtain ⟨W, tk, f⟩ := f
  exact ws_of (ps_ret wx_pe) (h I0 H0 σ I H rl W tk (fun I1 H1 g c hc => f σ I1 H1 g.ii (rl.grow g) c hc) _)
theorem s1_setX (j : Nat) {pos' : Pos} (hN : X.N.Nodup) (hi : X.N[j]? = some y) (hx : L2.Loc X.env.scope y) (h : EvX X A e x) (hs : swapsWith e (some (.Name y pos')) pos.line X.env = pure false := by rfl)
    (hf : X.fn y = true ∨ X.env.scope.names.lookup y = some .local := by first | exact .inl rfl | exact .inr rfl | assumption) : S1 X A (.Assign [.Name y pos'] e pos) (.ex x A) := fun I0 H0 σ I H rl D f => by
  obtain ⟨W, tk, f⟩ := f
  exact ws_of (ps_set hN hi hx wx_pe hs hf) (h I0 H0 σ I H rl W tk (fun I1 H1 g c hc => f σ I1 H1 g.ii (rl.grow g) c hc) _)
/-- xs.append(e), e raises -/
theorem s1_appX (j : Nat) {z : Str} {ds : List PyData} {p3 p4 : Pos} (hN : X.N[j]? = some z) (hA : A[j]? = some (.own (.lst ds))) (hv : Vis X.env.scope z) (h : EvX X A e x)
    (hd : (z == ("__debug__" : Str)) = false := by decide) (hcd : (z == ("__classdict__" : Str)) = false := by decide) (hs : starEach (e :: []) X.env = (false, eval e X.env) :: starEach [] X.env := by rfl) (hpl : ((backTo p3 (starEach (e :: []) X.env)).all (fun x => !x.1) && (backToKw p3 (keywordEach [] X.env)).all (fun x => x.1.isSome) && decide (([e] : List Expr).length + ([] : List Keyword).length + (if ([] : List Keyword).isEmpty then 0 else 1) < 30)) = true := by rfl) (hline : (p2.endLine == p3.line) = true := by rfl)
    (hsw : swapsWith (.Call (.Attribute (.Name z p) "append" p2) [e] [] p3) none p4.line X.env = pure false := by rfl) : S1 X A (.Expr (.Call (.Attribute (.Name z p) "append" p2) [e] [] p3) p4) (.ex x A) := fun I0 H0 σ I H rl D f => by
  obtain ⟨W, tk, f⟩ := f
  obtain ⟨q, o, e1, n0, n, ho, hb⟩ := rl.cell j _ hA
  obtain ⟨vs, rfl, ha⟩ := obAt_lst hb
  refine ws_of (ps_expr (pe_bm PySem.F.plainAttrs_list PySem.F.slot_list_append PySem.F.type_list_append mt_append (pe_var hN hv hd hcd) (pa_cons wx_pe pa_nil hs) (hfew := hpl) (hline := hline) (hs := hs) (hplain := rfl)) hsw) ⟨.ref q, e1, .inl ⟨rfl, _, .inl (.inl ho)⟩, ?_⟩
  exact h I0 H0 σ I H rl W tk (fun I1 H1 g c hc => f σ I1 H1 g.ii (rl.grow g) c hc) _
end
end LR

set_option Elab.async false
set_option linter.all false
set_option maxRecDepth 100000
set_option maxHeartbeats 4000000
/-! The layer LR, part q: sorted(xs, key=f), f a def whose results are whole numbers. -/
namespace LR
open PySem PySem.Spec PyProof.Rows L2

theorem each_vals {xs : List V} {its : List Value} {ds : List PyData} {K : PySem.W.Frag} {I : Hp} (r : Vals xs its) (h : DpAll K I xs ds) : PySem.W.EachIs (fun (v : Value) (p : V × PyData) => RelV p.1 v ∧ Dp K I p.1 p.2) its (xs.zip ds) := by
  induction r generalizing ds with
  | nil => cases h; exact .nil
  | cons a b ih =>
    cases h with
    | cons c d => exact .cons ⟨a, c⟩ (ih d)
theorem zip_snd {xs : List V} : ∀ {ds : List PyData}, xs.length = ds.length → (xs.zip ds).map (·.2) = ds := by
  induction xs with
  | nil => intro ds h; cases ds with
    | nil => rfl
    | cons => cases h
  | cons x r ih => intro ds h; cases ds with
    | nil => cases h
    | cons d s =>
      rw [List.zip_cons_cons, List.map_cons, ih (by simpa using h)]
theorem vals_each {K : PySem.W.Frag} {I : Hp} : ∀ {out : List Value} {zs : List (V × PyData)}, PySem.W.EachIs (fun (v : Value) (p : V × PyData) => RelV p.1 v ∧ Dp K I p.1 p.2) out zs → Vals (zs.map (·.1)) out ∧ DpAll K I (zs.map (·.1)) (zs.map (·.2))
  | _, _, .nil => ⟨.nil, .nil⟩
  | _, _, .cons a b => ⟨.cons a.1 (vals_each b).1, .cons a.2 (vals_each b).2⟩
theorem each_snoc' {α β : Type} {R : α → β → Prop} {a : α} {b : β} (h : R a b) : ∀ {as : List α} {bs : List β}, PySem.W.EachIs R as bs → PySem.W.EachIs R (as ++ [a]) (bs ++ [b])
  | _, _, .nil => .cons h .nil
  | _, _, .cons p q => .cons p (each_snoc' h q)
/-- sorted(xs, key=f) -/
def rSortF (K : PySem.W.Frag) (f : Addr) (R : List PyData → Res → Prop) : List V → List V → Hp → VK → Prop := fun vs zs H Q => ∃ (a : Addr) (xs : List V) (ds : List PyData) (key : PyData → Int) (I : Hp), vs = [V.ref a] ∧ zs = [V.ref f] ∧ SqL K H a xs ∧ Same I H ∧ DpAll K I xs ds ∧ (∀ d ∈ ds, R [d] (.ok (.dat (.int (key d))))) ∧
  ∀ (ys : List V) (I2 H2 : Hp) (p : Addr), Grow I H I2 H2 → DpAll K I2 ys (ds.mergeSort fun a b => decide (key a ≤ key b)) → H p = none → I2 p = none → H2 p = none → Q (.ref p) (upd H2 p (.lst ys))
theorem le_key {α : Type} (k : α → Int) (a b : α) : PySem.W.dataLe false (fun x => PyData.int (k x)) a b = decide (k a ≤ k b) := by
  show (!PyProof.Rows.lexLt PyProof.Rows.itemOrd [Sum.inl (k b)] [Sum.inl (k a)]) = _
  simp [PyProof.Rows.lexLt, PyProof.Rows.itemLt]
  rw [← decide_not]
  exact decide_eq_decide.mpr (by omega)
section
variable {X : Cx} {A : List C} {pos p p2 : Pos} {x : Str}
theorem sorted_loop {pins : List (Addr × Obj)} {σ : L2.St} {k : Nat} {pn : Str} {R : List PyData → Res → Prop} {f : Addr} {fd : FuncData} (F : FnOk X.prog X.w X.K X.mg X.base (L2.CX X.prog X.w) k f fd [pn] (Spec X.K X.mg R)) (hr : Room (k + 2) X.A) (hb : Binds X.K fd [pn] [])
    {s : Shared} {H I : Hp} {a kS : Addr} {its : List Value} {xs : List V} {ds : List PyData} {key : PyData → Int} {e1 : Nat} {Pf : PySem.Fin → Shared → Prop} {E : Value → Shared → Prop}
    (Iv : Inv X pins σ H s) (hih : Same I H) (nk : s.heap.get? kS = some (seqObj "list" #[] 0)) (na : s.heap.get? a = some (seqObj "list" #[] e1)) (hka : kS ≠ a) (Hk : H kS = none) (Ha : H a = none)
    (f1 : ∀ c, (c = kS ∨ c = a) → X.s_0.heap.objs.size ≤ c ∧ c ≠ X.env.locals ∧ (∀ x d, X.env.cells.lookup x = some d → d ≠ c) ∧ (∀ p ∈ X.pn ++ pins, p.1 ≠ c) ∧ c ∉ X.fs)
    (rv : Vals xs its) (hd : DpAll X.K I xs ds) (hR : ∀ d ∈ ds, R [d] (.ok (.dat (.int (key d))))) (hz : its.length ≤ sizeLine)
    (done : ∀ (ys : List V) (I2 H2 : Hp) (s2 : Shared), Grow I H I2 H2 → DpAll X.K I2 ys (ds.mergeSort fun a b => decide (key a ≤ key b)) → Inv X pins σ (upd H2 a (.lst ys)) s2 → I2 a = none → H2 a = none → Pf (.done (.ret .none)) s2) :
    wpAny (model X.prog X.w) X.A.in1.in1 (PyProof.Rows.ksk_rest a (.ref f) false its.toArray e1 (.ref kS)) Pf E s := by
  unfold PyProof.Rows.ksk_rest
  refine wpAny_bind (wpAny_rule ?_)
  first
    | rw [List.forIn_toArray]
    | (rw [← Array.forIn_toList]; simp only [List.toList_toArray])
    | rw [← Array.forIn_toList]
  have hlx : its.length = ds.length := by rw [← rv.length, dpAll_len hd]
  refine wpAny_bind (PyProof.Rows.ksk_fold (fun i s' => ∃ I' H' kA e, Inv X ((kS, seqObj "list" kA e) :: (a, seqObj "list" #[] e1) :: pins) σ H' s' ∧ Grow I H I' H' ∧ I' a = none ∧ PySem.W.EachIs (fun (v : Value) (d : PyData) => ∃ t, v = Value.int (key d) t) kA.toList (ds.take i)) its 0 s
    ⟨I, H, #[], 0, ?start, .refl hih, ?sa, by rw [List.take_zero]; exact PySem.W.EachIs.nil⟩ ?step ?done)
  case sa => exact hih.free Ha
  case start =>
    refine Iv.pins_of fun p hp => ?_
    rcases List.mem_cons.mp hp with rfl | hp
    · exact ⟨nk, Hk, (f1 kS (.inl rfl)).2.1, (f1 kS (.inl rfl)).2.2.2.2, fun v z => by cases z⟩
    · rcases List.mem_cons.mp hp with rfl | hp
      · exact ⟨na, Ha, (f1 a (.inr rfl)).2.1, (f1 a (.inr rfl)).2.2.2.2, fun v z => by cases z⟩
      · exact Iv.pin p (List.mem_append.mpr (.inr hp))
  case step =>
    rintro j x s' hx ⟨I', H', kA, e, J, g, ia, hk⟩
    simp only [Nat.zero_add] at hk ⊢
    have hj : j < its.length := (List.getElem?_eq_some_iff.mp hx).1
    obtain ⟨d, hdj⟩ : ∃ d, ds[j]? = some d := ⟨_, List.getElem?_eq_getElem (by omega)⟩
    obtain ⟨v, hv, hvd⟩ := dpAll_get hd hdj
    obtain ⟨x', hx', rx⟩ := rv.get hv
    have ex : x' = x := Option.some.inj (hx'.symm.trans hx)
    subst ex
    have hszk : kA.size ≤ its.length := by
      have h1 := hk.length
      rw [Array.length_toList, List.length_take] at h1
      omega
    have rm : Room k X.A.in1.in1 := Room.in1 (Room.in1 hr)
    refine wpAny_bind (wpAny_attempt ?_)
    refine wpAny_call (codeAny_mono (F.run X.A.in1.in1 X.stack s' H' ⟨[x'], []⟩ [x'] [v] (fun u H2 => ∃ I2, Grow I' H' I2 H2 ∧ u = .int (key d)) (fun _ _ _ => False) rm J.env0.in1.in1 ?bn (.cons rx .nil) ?sp) fun r s2 hq => ?_)
    case bn =>
      have := hb s' [x'] J.kIn rfl
      simpa using this
    case sp =>
      refine ⟨I', [d], .ok (.dat (.int (key d))), g.ih, .cons (dp_mono g.ii hvd) .nil, hR d (List.mem_of_getElem? hdj), fun u I2 H2 g2 hu => ⟨I2, g2, dp_int hu⟩⟩
    cases r with
    | error e =>
      obtain ⟨_, _, _, _, _, _, _, _, _, _, _, _, z⟩ := hq
      exact z.elim
    | ok fl =>
      cases fl with
      | next => exact False.elim hq
      | brk => exact False.elim hq
      | cont => exact False.elim hq
      | ret u =>
        obtain ⟨v2, H2, os, bare, un, hok, r2, I2, g2, rfl⟩ := hq
        obtain ⟨t2, rfl⟩ : ∃ t, u = Value.int (key d) t := r2
        have J2 : Inv X ((kS, seqObj "list" kA e) :: (a, seqObj "list" #[] e1) :: pins) σ H2 s2 := J.call' (ch := []) os un hok bare (fun _ z => nomatch z)
        have pk := J2.pin (kS, seqObj "list" kA e) (List.mem_append.mpr (.inr List.mem_cons_self))
        have pa := J2.pin (a, seqObj "list" #[] e1) (List.mem_append.mpr (.inr (List.mem_cons_of_mem _ List.mem_cons_self)))
        obtain ⟨c2, hc2⟩ : ∃ c2, (s2.heap.update kS (Obj.mapSeq (·.push (Value.int (key d) t2)))).get? kS = some (seqObj "list" (kA.push (Value.int (key d) t2)) c2) := ⟨_, get?_update_seq pk.1 (·.push (Value.int (key d) t2))⟩
        have s1 := Heap.SameBut.update s2.heap kS (Obj.mapSeq (·.push (Value.int (key d) t2)))
        refine wpAny_bind (listUpdate_at pk.1 rfl ?_ (Nat.le_trans hszk hz) (Nat.le_trans (Nat.le_of_eq (Array.size_push ..)) (Nat.succ_le_succ (Nat.le_trans hszk hz))))
        have ff := f1 kS (.inl rfl)
        have J3 : Inv X ((a, seqObj "list" #[] e1) :: pins) σ H2 s2 := J2.pins_of fun p hp => J2.pin p (List.mem_append.mpr (.inr (List.mem_cons_of_mem _ hp)))
        have J4 : Inv X ((a, seqObj "list" #[] e1) :: pins) σ H2 { s2 with heap := s2.heap.update kS (Obj.mapSeq (·.push (Value.int (key d) t2))), toks := s2.toks } :=
          J3.turned (it := kS) (t' := s2.toks) (fun b o hb e => (s1.2 b hb).trans e) pk.2.1 ff.2.1 (.inr ff.1) ff.2.2.1 fun p hp => by
            rcases List.mem_append.mp hp with z | z
            · exact ff.2.2.2.1 p (List.mem_append.mpr (.inl z))
            · rcases List.mem_cons.mp z with rfl | z
              · exact hka.symm
              · exact ff.2.2.2.1 p (List.mem_append.mpr (.inr z))
        refine wpAny_pure ⟨rfl, I2, H2, kA.push (Value.int (key d) t2), c2, ?_, g.trans g2, ?_, ?_⟩
        · refine J4.pins_of fun p hp => ?_
          rcases List.mem_cons.mp hp with rfl | hp
          · exact ⟨hc2, pk.2.1, ff.2.1, ff.2.2.2.2, fun v z => by cases z⟩
          · exact J4.pin p (List.mem_append.mpr (.inr hp))
        · exact g2.ih.free pa.2.1
        · have e3 : ds.take (j + 1) = ds.take j ++ [d] := by rw [List.take_add_one, hdj]; rfl
          rw [e3, Array.toList_push]
          exact each_snoc' (R := fun (v : Value) (d : PyData) => ∃ t, v = Value.int (key d) t) ⟨t2, rfl⟩ hk
  case done =>
    rintro s' ⟨I', H', kA, e, J, g, ia, hk⟩
    have pk := J.pin (kS, seqObj "list" kA e) (List.mem_append.mpr (.inr List.mem_cons_self))
    have pa := J.pin (a, seqObj "list" #[] e1) (List.mem_append.mpr (.inr (List.mem_cons_of_mem _ List.mem_cons_self)))
    have e3 : ds.take (0 + its.length) = ds := List.take_of_length_le (by omega)
    rw [e3] at hk
    have hszk : kA.size = its.length := by
      have h1 := hk.length
      rw [Array.length_toList] at h1
      omega
    have hkd : PySem.W.EachIs (fun (v : Value) (d : PyData) => ∃ as, Reads s'.heap v d as) kA.toList (ds.map fun d => PyData.int (key d)) := by
      have go : ∀ {ks : List Value} {ds : List PyData}, PySem.W.EachIs (fun (v : Value) (d : PyData) => ∃ t, v = Value.int (key d) t) ks ds → PySem.W.EachIs (fun (v : Value) (d : PyData) => ∃ as, Reads s'.heap v d as) ks (ds.map fun d => PyData.int (key d)) := by
        intro ks ds h
        induction h with
        | nil => exact .nil
        | cons a b ih =>
          obtain ⟨t, rfl⟩ := a
          exact .cons ⟨[], .int _ _⟩ ih
      exact go hk
    obtain ⟨G, g1, g2⟩ := restrict s'.heap fun b => decide (b ≠ kS)
    have gk : ∀ b o, b ≠ kS → s'.heap.get? b = some o → G.get? b = some o := fun b o hb e => by
      rw [g1 b (decide_eq_true hb)]
      exact e
    have gkS : G.get? kS = none := g2 kS (decide_eq_false fun z => z rfl)
    have kp : PySem.W.KeepsBut a G s'.heap := fun b o hb e => by
      by_cases hbk : b = kS
      · subst hbk; rw [gkS] at e; cases e
      · rw [← g1 b (decide_eq_true hbk)]; exact e
    have hal : PySem.W.AllAlike (ds.map fun d => PyData.int (key d)) := fun d hd d' hd' => by
      obtain ⟨_, _, rfl⟩ := List.mem_map.mp hd
      obtain ⟨_, _, rfl⟩ := List.mem_map.mp hd'
      rfl
    have hso : PySem.W.Sortable (ds.map fun d => PyData.int (key d)) := .inr fun d hd => by
      obtain ⟨_, _, rfl⟩ := List.mem_map.mp hd
      exact ⟨(fun z => by cases z), fun _ z => by cases z⟩
    refine wpAny_bind (listItems_at pk.1 rfl ?_)
    refine PySem.W.keyH_end (κ := PySem.W.dataKind s'.heap (ds.map fun d => PyData.int (key d))) (h₁ := G) kp gkS pk.1 pa.1 hka (PySem.W.SortsAt.data hkd hal hso fun d hd => ?room) hszk hz fun h' tk c k3 n3 => ?_
    case room =>
      obtain ⟨_, _, rfl⟩ := List.mem_map.mp hd
      have := hr.un
      show X.A.units + 1 + 1 + PyData.depth (.int _) < _
      rw [PyData.depth]
      omega
    have ko : PySem.W.KeyedOut false (ds.map fun d => PyData.int (key d)) its (PySem.W.sortVals (PySem.W.dataKind s'.heap (ds.map fun d => PyData.int (key d))) false kA.toList its) := ⟨s'.heap, kA.toList, hal, rfl, hkd⟩
    generalize PySem.W.sortVals (PySem.W.dataKind s'.heap (ds.map fun d => PyData.int (key d))) false kA.toList its = out at *
    have ez : (xs.zip ds).map (fun p => PyData.int (key p.2)) = ds.map fun d => PyData.int (key d) := by
      conv => rhs; rw [← zip_snd (xs := xs) (ds := ds) (dpAll_len hd)]
      rw [List.map_map]
      rfl
    rw [← ez] at ko
    have each := PySem.W.keyedOut_each (fun p : V × PyData => PyData.int (key p.2)) ko (each_vals rv (dpAll_mono g.ii hd))
    have em : ((xs.zip ds).mergeSort (PySem.W.dataLe false fun p : V × PyData => PyData.int (key p.2))).map (·.2) = ds.mergeSort fun a b => decide (key a ≤ key b) := by
      rw [List.map_mergeSort (s := fun a b => decide (key a ≤ key b)) (fun a _ b _ => le_key (fun p : V × PyData => key p.2) a b), zip_snd (dpAll_len hd)]
    obtain ⟨w1, w2⟩ := vals_each each
    rw [em] at w2
    have hol : out.length = its.length := ko.length (by rw [List.length_map, List.length_zip, dpAll_len hd, Nat.min_self]; exact hlx.symm)
    generalize ((xs.zip ds).mergeSort (PySem.W.dataLe false fun p : V × PyData => PyData.int (key p.2))).map (·.1) = ys at *
    refine done ys I' H' _ g w2 ?_ ia pa.2.1
    have J0 : Inv X pins σ H' s' := J.pins_of fun p hp => J.pin p (List.mem_append.mpr (.inr (List.mem_cons_of_mem _ (List.mem_cons_of_mem _ hp))))
    have fa := f1 a (.inr rfl)
    have fk := f1 kS (.inl rfl)
    have kept : ∀ b o, b ∉ [a, kS] → s'.heap.get? b = some o → h'.get? b = some o := fun b o hb e => by
      have h1 : b ≠ a := fun z => hb (by simp [z])
      have h2 : b ≠ kS := fun z => hb (by simp [z])
      exact k3 b o h1 (gk b o h2 e)
    have nH : ∀ b u, H' b = some u → b ∉ [a, kS] := fun b u e z => by
      rcases List.mem_cons.mp z with rfl | z
      · rw [pa.2.1] at e; cases e
      · rw [List.mem_singleton.mp z, pk.2.1] at e; cases e
    have ne : ∀ b u, H' b = some u → b ≠ a := fun b u e z => nH b u e (by simp [z])
    refine J0.step (ch := [a, kS]) (g' := s'.gens) (d' := s'.drawn) (fun b hb => ?_) (fun b o _ _ hc e _ => kept b o hc e) (fun b o _ _ hc e _ => ⟨o.slots, kept b o hc e⟩) (fun b o hc e n => ?_) (fun b o hc e => ⟨o, kept b o hc e⟩)
      (fun b zs q => by rw [upd_ne (ne b _ q)]; exact q) (fun b o u q => by rw [upd_ne (ne b _ q)]; exact q) (fun b ps q => ⟨#[], by rw [upd_ne (ne b _ q), q]; simp⟩) (fun m hm => ?_) (fun b u q => ?_) J0.bare
    · rcases List.mem_cons.mp hb with rfl | hb
      · exact ⟨.inr fa.1, fa.2.1, fa.2.2.1, fa.2.2.2.1⟩
      · rw [List.mem_singleton.mp hb]
        exact ⟨.inr fk.1, fk.2.1, fk.2.2.1, fk.2.2.2.1⟩
    · rw [upd_ne (fun z => hc (by simp [z]))]; exact n
    · obtain ⟨o, es, ep, ho, r⟩ := hm
      refine ⟨o, es, ep, kept _ _ (fun z => ?_) ho, r⟩
      rcases List.mem_cons.mp z with z | z
      · exact fa.2.1 z.symm
      · exact fk.2.1 (List.mem_singleton.mp z).symm
    · by_cases hba : b = a
      · subst hba
        rw [upd_same] at q
        cases q
        exact ⟨by rw [w1.length, hol]; exact hz, out, c, w1, n3⟩
      · rw [upd_ne hba] at q
        refine (J0.hok b u q).stay (fun c v hc z => kept c v ?_ z) (fun c z => by rw [upd_ne (ne c _ z)]; exact z) (fun c zs z => by rw [upd_ne (ne c _ z)]; exact z)
        rcases hc with z | z
        · rw [z]; exact nH b u q
        · exact nH c _ z
theorem cr_sortF {k : Nat} {pn : Str} {R : List PyData → Res → Prop} {f : Addr} {fd : FuncData} (F : FnOk X.prog X.w X.K X.mg X.base (L2.CX X.prog X.w) k f fd [pn] (Spec X.K X.mg R)) (hr : Room (k + 2) X.A) (hb : Binds X.K fd [pn] []) :
    CallRK X (.builtin "sorted") [Str.ofString "key"] (rSortF X.K f R) := by
  intro pins s σ H vs zs us ws Q I r rz h
  obtain ⟨l, xs, ds, key, I1, rfl, rfl, hs, hih, hd, hR, q⟩ := h
  obtain rfl := Vals.ref1 r
  obtain ⟨w1, rfl, e1⟩ := vals1 rz
  obtain rfl : w1 = Value.ref f := e1
  obtain ⟨its, rv, hl, hz⟩ := I.list hs
  have hz' : its.length ≤ sizeLine := by rw [← rv.length]; exact hz
  refine PySem.W.sorted_of_sort hl.isList hz' (PyProof.Rows.ksk_s1 _ _) (fun _ => PyProof.Rows.ksk_l1 _ _) fun E' => ?_
  rw [show ([Str.ofString "key"].zip [Value.ref f]) = [(Str.ofString "key", Value.ref f)] from rfl, PyProof.Rows.ksk_t1]
  have ho := PySem.W.copyHeap_at s.heap its
  have sz0 : (PySem.W.copyHeap s.heap its).objs.size = s.heap.objs.size + 2 := by
    unfold PySem.W.copyHeap
    rw [size_push', Heap.size_update, size_push']
  obtain ⟨e1, ho1⟩ : ∃ e1, ((PySem.W.copyHeap s.heap its).update (s.heap.objs.size + 1) (Obj.mapSeq fun _ => (#[] : Array Value))).get? (s.heap.objs.size + 1) = some (seqObj "list" #[] e1) := ⟨_, get?_update_seq ho fun _ => #[]⟩
  have hkS : (((PySem.W.copyHeap s.heap its).update (s.heap.objs.size + 1) (Obj.mapSeq fun _ => (#[] : Array Value))).push (seqObj "tuple" its.toArray 0)).objs.size = s.heap.objs.size + 3 := by rw [size_push', Heap.size_update, sz0]
  unfold PyProof.Rows.ksk_tree
  refine wpAny_bind (listItems_at (s := { s with heap := PySem.W.copyHeap s.heap its }) ho rfl ?_)
  refine wpAny_bind (listUpdate_at (s := { s with heap := PySem.W.copyHeap s.heap its }) ho rfl ?_ (by rw [List.size_toArray]; exact hz') (Nat.zero_le _))
  refine wpAny_bind (seqEpoch_at ho1 rfl ?_)
  refine wpAny_bind (wpAny_newTuple ?_ (by show its.length ≤ _; exact hz'))
  refine wpAny_bind (wpAny_newList ?_ (Nat.zero_le _))
  refine wpAny_holding ?_
  have old : ∀ b o, s.heap.get? b = some o → ((((PySem.W.copyHeap s.heap its).update (s.heap.objs.size + 1) (Obj.mapSeq fun _ => (#[] : Array Value))).push (seqObj "tuple" its.toArray 0)).push (seqObj "list" #[] 0)).get? b = some o := fun b o e => by
    have hlt := Heap.lt_size e
    refine Heap.get?_push_of_some _ (Heap.get?_push_of_some _ ?_)
    rw [Heap.get?_update_ne _ _ _ _ (Nat.ne_of_lt (Nat.lt_succ_of_lt hlt))]
    exact PySem.W.copyHeap_old e
  have I2 : Inv X pins σ H { s with heap := (((PySem.W.copyHeap s.heap its).update (s.heap.objs.size + 1) (Obj.mapSeq fun _ => (#[] : Array Value))).push (seqObj "tuple" its.toArray 0)).push (seqObj "list" #[] 0), toks := s.toks } := I.kept old
  have hlt : ∀ c, s.heap.objs.size ≤ c → X.s_0.heap.objs.size ≤ c ∧ c ≠ X.env.locals ∧ (∀ x d, X.env.cells.lookup x = some d → d ≠ c) ∧ (∀ p ∈ X.pn ++ pins, p.1 ≠ c) ∧ c ∉ X.fs := fun c hc => by
    refine ⟨Nat.le_trans I.sz hc, fun z => ?_, fun x d e z => ?_, fun p hp z => ?_, I.nofs hc⟩
    · exact absurd (Nat.lt_of_le_of_lt (z ▸ hc) I.lt) (Nat.lt_irrefl _)
    · obtain ⟨v, o, ho, _⟩ := I.cell x d e
      exact absurd (Nat.lt_of_lt_of_le (Heap.lt_size ho) (z ▸ hc)) (Nat.lt_irrefl _)
    · exact absurd (Nat.lt_of_lt_of_le (Heap.lt_size (I.pin p hp).1) (z ▸ hc)) (Nat.lt_irrefl _)
  refine sorted_loop (kS := (((PySem.W.copyHeap s.heap its).update (s.heap.objs.size + 1) (Obj.mapSeq fun _ => (#[] : Array Value))).push (seqObj "tuple" its.toArray 0)).objs.size) (key := key) F hr hb I2 hih (Heap.get?_push_size _ rfl) (Heap.get?_push_of_some _ (Heap.get?_push_of_some _ ho1)) (by rw [hkS]; exact Nat.ne_of_gt (Nat.lt_succ_of_lt (Nat.lt_succ_self _)))
    (I.hok.fresh (by rw [hkS]; exact Nat.le_add_right _ _)) (I.hok.fresh (Nat.le_succ _)) (fun c hc => hlt c (by
      rcases hc with z | z
      · rw [z, hkS]; exact Nat.le_add_right _ _
      · rw [z]; exact Nat.le_succ _)) rv hd hR hz' fun ys I3 H3 s3 g w J ia ha => ?_
  exact ⟨rfl, .ref _, _, J, rfl, q ys I3 H3 _ g w (I.hok.fresh (Nat.le_succ _)) ia ha⟩
/-- sorted(e, key=f) -/
theorem ev_sortF {k : Nat} {pn y : Str} {R : List PyData → Res → Prop} {ds : List PyData} {e : Expr} (key : PyData → Int) {np kp : Pos} (G : Fn X.prog X.w X.K X.mg X.base k y [pn] R) (hr : Room (k + 2) X.A) (hg : Gl X "sorted") (hm : X.mg "sorted" = none) (hgy : Gl X y) (h : EvS X A e true ds) (hR : ∀ d ∈ ds, R [d] (.ok (.dat (.int (key d)))))
    (hdb : (y == ("__debug__" : Str)) = false := by decide) (hb : bootBuiltins "sorted" = some (.builtin "sorted") := by decide +kernel) (he : backTo pos (starEach (e :: []) X.env) = (false, eval e X.env) :: backTo pos (starEach [] X.env) := by rfl) (hpl : (backTo pos (starEach (e :: []) X.env)).any (·.1) = false := by rfl)
    (hall : (backToKw pos (keywordEach [⟨some (Str.ofString "key"), .Name y np, kp⟩] X.env)).all (·.1.isSome) = true := by rfl) (hnone : (backToKw pos (keywordEach [⟨some (Str.ofString "key"), .Name y np, kp⟩] X.env)).any (·.1.isNone) = false := by rfl) (hks : (backToKw pos (keywordEach [⟨some (Str.ofString "key"), .Name y np, kp⟩] X.env)).filterMap (·.1) = [Str.ofString "key"] := by rfl) (hs : starEach (e :: []) X.env = (false, eval e X.env) :: starEach [] X.env := by rfl) :
    Ev X A (.Call (.Name "sorted" p) [e] [⟨some (Str.ofString "key"), .Name y np, kp⟩] pos) (.own (.lst (ds.mergeSort fun a b => decide (key a ≤ key b)))) := fun I0 H0 σ I H rl Q q => by
  obtain ⟨f, fd, F, hmy, hk, hbd, _⟩ := G.ex
  exact wx_of (pe_callBK (cr_sortF F hr hbd) hg hm hb (pa_cons wx_pe pa_nil hs) (pk_cons (pe_glob (v := .ref f) hgy hmy rfl hdb) pk_nil) (by decide) (by decide) he hpl hall hnone hks) (h I0 H0 σ I H rl _ fun p vs I1 H1 g hkk ha =>
    ⟨p, vs, ds, key, I1, rfl, rfl, hkk, g.ih, ha, hR, fun ys I2 H2 a g2 w n1 n2 n3 => by
      have g3 := Grow.newH (o := .lst ys) g2.ih n3
      exact q _ _ _ ((g.trans g2).trans g3) ⟨a, _, rfl, g.hh.free n1, n2, upd_same, w⟩⟩)
end
end LR

set_option Elab.async false
set_option linter.all false
set_option maxRecDepth 100000
set_option maxHeartbeats 4000000
/-! The layer LR, part r: t[::-1] of a tuple. -/
namespace LR
open PySem PySem.Spec PyProof.Rows L2 HT RZ

theorem pick_all {α : Type} : ∀ l : List α, (List.range l.length).filterMap (fun k => l[k]?) = l
  | [] => rfl
  | x :: r => by
    rw [List.length_cons, List.range_succ_eq_map, List.filterMap_cons, List.filterMap_map]
    show x :: (List.range r.length).filterMap (fun k => r[k]?) = _
    rw [pick_all r]
theorem fm_congr {α β : Type} {f g : α → Option β} : ∀ {l : List α}, (∀ x ∈ l, f x = g x) → l.filterMap f = l.filterMap g
  | [], _ => rfl
  | x :: r, h => by
    rw [List.filterMap_cons, List.filterMap_cons, h x List.mem_cons_self, fm_congr fun y hy => h y (List.mem_cons_of_mem _ hy)]
theorem rev_pick {α : Type} (xs : List α) : (List.range xs.length).filterMap (fun k : Nat => xs[(((xs.length : Int) - 1) + (k : Int) * (-1)).toNat]?) = xs.reverse := by
  have h := pick_all xs.reverse
  rw [List.length_reverse] at h
  conv => rhs; rw [← h]
  refine fm_congr fun k hk => ?_
  have hk := List.mem_range.mp hk
  rw [List.getElem?_reverse hk]
  congr 1
  omega
section
variable {prog : Program} {w : World} {A : Around} {E : Value → Shared → Prop} {s : Shared}
theorem sliceApplied_rev {sl : Addr} {t : Tok} {n : Nat} {Q : Int × Int × Nat → Shared → Prop} (hs : s.heap.IsSliceOf sl .none .none (.int (-1) t))
    (h : Q ((n : Int) - 1, -1, n) s) : wpAny (model prog w) A (Builtin.Slice.sliceApplied (.ref sl) (pure (n : Int))) Q E s := by
  obtain ⟨os, hos, hcs, hds⟩ := id hs
  unfold Builtin.Slice.sliceApplied Builtin.Slice.sliceFields
  refine wpAny_bind (wpAny_bind (wpAny_field hos hds (x := .none) rfl (wpAny_bind (wpAny_field hos hds (x := .none) rfl (wpAny_bind (wpAny_field hos hds (x := .int (-1) t) rfl (wpAny_pure ?_)))))))
  refine wpAny_bind (slicePart_int ?_)
  show wpAny _ _ (if ((-1 : Int) == 0) = true then _ else _) _ _ s
  rw [if_neg (by decide)]
  refine wpAny_bind (slicePart_none (wpAny_bind (slicePart_none (wpAny_bind (wpAny_pure ?_)))))
  show wpAny _ _ (match Builtin.Slice.sliceAdjust none none (-1) (n : Int) with | (lo, hi) => pure (lo, (-1 : Int), Builtin.Slice.slicePlaces lo hi (-1))) _ _ s
  have e : Builtin.Slice.sliceAdjust none none (-1) (n : Int) = ((n : Int) - 1, -1) := by
    unfold Builtin.Slice.sliceAdjust
    rfl
  rw [e]
  have e2 : Builtin.Slice.slicePlaces ((n : Int) - 1) (-1) (-1) = n := by
    unfold Builtin.Slice.slicePlaces
    simp
    omega
  show wpAny _ _ (pure ((n : Int) - 1, (-1 : Int), Builtin.Slice.slicePlaces ((n : Int) - 1) (-1) (-1))) _ _ s
  rw [e2]
  exact wpAny_pure h
theorem getItem_tuple_rev {t sl : Addr} {its : List Value} {tk : Tok} {Q : Value → Shared → Prop} (ht : IsTup s.heap t its.toArray) (hs : s.heap.IsSliceOf sl .none .none (.int (-1) tk)) (hz : its.length ≤ sizeLine)
    (h : Q (.ref s.heap.objs.size) { s with heap := s.heap.push { cls := .type "tuple", data := .seq its.reverse.toArray } }) : wpAny (model prog w) A (getItem (.ref t) (.ref sl)) Q E s := by
  have htake : sizeOk (.seq its.reverse.toArray) := by
    show its.reverse.toArray.size ≤ sizeLine
    rw [List.size_toArray, List.length_reverse]
    exact hz
  obtain ⟨os, hos, hcs, hds⟩ := id hs
  have hTs : s.TypeIs (.ref sl) "slice" := ⟨os, hos, hcs⟩
  unfold getItem
  try with_reducible refine wpAny_holding ?_
  first | refine wpAny_bind (wpAny_pure ?_) | skip
  refine wpAny_bind (wpAny_sequenceKey ht.typeIs (by decide) ?_)
  refine wpAny_bind (wpAny_callSpecial?_slot (name := Str.ofString "__getitem__") ht.typeIs PyProof.Rows.slot_tuple_getitem
    (wpAny_call_entry PyProof.Rows.slot_tuple_getitem ht.typeIs entry_tuple_getitem ?_ (args_tuple_getitem _ _)))
  show wpAny _ _ (Builtin.Tuple.tupleItemsOf (.ref t) >>= _) _ _ s
  refine wpAny_bind (tupleItemsOf_ ht ?_)
  refine wpAny_bind (wpAny_typeOf hTs ?_)
  rw [if_pos (by decide)]
  refine wpAny_bind (sliceApplied_rev hs ?_)
  have hno : ¬ ((((its.toArray.size : Int) - 1) == 0 && (-1 : Int) == 1 && its.toArray.size == its.toArray.size) = true) := by simp
  show wpAny _ _ (if (((its.toArray.size : Int) - 1) == 0 && (-1 : Int) == 1 && its.toArray.size == its.toArray.size) = true then _ else _) _ _ s
  rw [if_neg hno]
  have e : (List.range its.toArray.size).filterMap (fun (k : Nat) => its.toArray[(((its.toArray.size : Int) - 1) + (k : Int) * (-1)).toNat]?) = its.reverse := by
    rw [List.size_toArray, ← rev_pick its]
    congr 1
    funext k
    simp
  rw [e]
  first
    | exact wpAny_bind (m := Builtin.Tuple.tupleExact _) (wpAny_newObj_type (wpAny_pure ⟨_, rfl, wpAny_pure h⟩) htake)
    | exact wpAny_bind (m := Builtin.Tuple.tupleExact _) (wpAny_newObj_type (wpAny_bind (wpAny_pure (wpAny_pure ⟨_, rfl, wpAny_pure h⟩))) htake)
    | exact wpAny_bind (wpAny_bind (m := Builtin.Tuple.tupleExact _) (wpAny_newObj_type (wpAny_pure (wpAny_pure ⟨_, rfl, wpAny_pure h⟩)) htake))
    | exact wpAny_bind (wpAny_bind (m := Builtin.Tuple.tupleExact _) (wpAny_newObj_type (wpAny_pure ⟨_, rfl, wpAny_pure h⟩) htake))
end
theorem vals_rev : ∀ {vs : List V} {us : List Value}, Vals vs us → Vals vs.reverse us.reverse
  | _, _, .nil => .nil
  | _, _, .cons h t => by
    rw [List.reverse_cons, List.reverse_cons]
    exact (vals_rev t).append (.cons h .nil)
section
variable {X : Cx} {e st : Expr} {te : TE} {A : List C}
def tRevT (K : PySem.W.Frag) (te ts : TE) : TE := fun σ H Q => te σ H fun x H1 => ts σ H1 fun i H2 => i = .int (-1) ∧ ∃ a xs, x = .ref a ∧ SqT K H2 a xs ∧ ∀ p, H2 p = none → Q (.ref p) (upd H2 p (.tup xs.reverse))
theorem pe_revT {ts : TE} {p3 pos : Pos} (he : PE X e te) (hst : PE X st ts) : PE X (.Subscript e (.Slice none none (some st) p3) pos) (tRevT X.K te ts) := by
  refine ⟨fun pins s σ H Q I h => ?_⟩
  refine Subscript_ (thn (he.run pins s σ H _ I h) fun v s1 ⟨x, H1, I1, r1, q1⟩ => ?_)
  refine wpAny_Slice (thn (po_none.run pins s1 σ H1 (fun o H3 => o = none ∧ H3 = H1) I1 ⟨rfl, rfl⟩) fun vl s2 ⟨l, H2, I2, pl, el, e2⟩ => ?_)
  subst el e2
  refine thn (po_none.run pins s2 σ H2 (fun o H3 => o = none ∧ H3 = H2) I2 ⟨rfl, rfl⟩) fun vu s3 ⟨u, H3, I3, pu, eu, e3⟩ => ?_
  subst eu e3
  refine thn (hst.run pins s3 σ H3 _ I3 q1) fun vs s4 ⟨i, H4, I4, ri, ei, a, xs, ex, hx, q⟩ => ?_
  subst ei ex
  cases r1
  obtain ⟨tk, rfl⟩ : ∃ t, vs = Value.int (-1) t := ri
  cases pl
  cases pu
  have I5 : Inv X pins σ H4 { s4 with heap := s4.heap.push { cls := .type "slice", data := .fields #[Value.none, Value.none, Value.int (-1) tk] } } := I4.kept (t' := s4.toks) fun b ob q => Heap.get?_push_of_some _ q
  obtain ⟨its, r, ht, hz⟩ := I5.tuple hx
  have hlen := r.length
  show wpAny (model X.prog X.w) X.A (subscriptTail e (.Slice none none (some st) p3) (.ref a) (.ref s4.heap.objs.size)) (EP X pins σ Q) X.xe { s4 with heap := s4.heap.push { cls := .type "slice", data := .fields #[Value.none, Value.none, Value.int (-1) tk] } }
  refine tail_any (ops := [.ref a, .ref s4.heap.objs.size]) ht.typeIs (PyProof.Rows.slot_tuple_getitem.lookup) ?_ (by with_unfolding_all rfl)
  refine getItem_tuple_rev ht (Heap.IsSliceOf.new _ _ _ _) (by rw [← hlen]; exact hz) ?_
  have hr := vals_rev r
  refine ⟨.ref _, _, I5.laid (t' := s4.toks) (o := .tup xs.reverse) (fun b ob q => Heap.get?_push_of_some _ q) (Nat.le_refl _) ?_, rfl, q _ (I5.hok.fresh (Nat.le_refl _))⟩
  exact ⟨by rw [List.length_reverse]; exact hz, _, hr, IsTup.new _ _⟩
/-- t[::-1] -/
theorem ev_revT {p3 pos : Pos} {α : Type} {enc : α → PyData} {xs : List α} (h : Ev X A e (.dat (.tuple (xs.map enc)))) (hl : Ev X A st (.dat (.int (-1)))) : Ev X A (.Subscript e (.Slice none none (some st) p3) pos) (.dat (.tuple (xs.reverse.map enc))) := fun I0 H0 σ I H rl Q q =>
  wx_of (pe_revT wx_pe wx_pe) (h I0 H0 σ I H rl _ fun v I1 H1 g1 hv => hl I0 H0 σ I1 H1 (rl.grow g1) _ fun i I2 H2 g2 hi => by
    have hv := dp_mono g2.ii (show Dp X.K I1 v (.tuple (xs.map enc)) from hv)
    obtain ⟨a, vs, rfl, hk, ha⟩ := dp_tup hv
    refine ⟨dp_int hi, a, vs, rfl, same_t g2.ih hk, fun r hr => ?_⟩
    have g4 := Grow.new (o := .tup vs.reverse) g2.ih hr
    refine q _ _ _ ((g1.trans g2).trans g4) (.tup upd_same ?_)
    rw [List.map_reverse]
    exact dpAll_reverse (dpAll_mono g4.ii ha))
theorem dpAll_zip {K : PySem.W.Frag} {I : Hp} {i : Nat} {d : PyData} : ∀ {src src2 : List PyData}, ((src.zip src2).map fun p => PyData.tuple [p.1, p.2])[i]? = some d → ∃ d1 d2, src[i]? = some d1 ∧ src2[i]? = some d2 ∧ d = .tuple [d1, d2] := by
  intro src src2 h
  rw [List.getElem?_map, Option.map_eq_some_iff] at h
  obtain ⟨⟨d1, d2⟩, h1, h2⟩ := h
  rw [List.getElem?_zip_eq_some] at h1
  exact ⟨d1, d2, h1.1, h1.2, h2.symm⟩
theorem walks_zipT {K : PySem.W.Frag} {I1 : Hp} {a b : Addr} {xs ys : List V} {src src2 : List PyData} (hs : SqT K I1 a xs) (hs2 : SqT K I1 b ys) (ha : DpAll K I1 xs src) (hb : DpAll K I1 ys src2) :
    Walks K (ItzT K a b) I1 ((src.zip src2).map fun p => PyData.tuple [p.1, p.2]) := by
  refine ⟨fun i d e I2 H2 s1 s2 => ?_, fun I2 H2 s1 s2 => ⟨xs, ys, same_t (s1.trans s2) hs, same_t (s1.trans s2) hs2, ?_⟩⟩
  · obtain ⟨d1, d2, e1, e2, rfl⟩ := dpAll_zip (K := K) (I := I1) e
    obtain ⟨v1, f1, g1⟩ := dpAll_get ha e1
    obtain ⟨v2, f2, g2⟩ := dpAll_get hb e2
    refine ⟨⟨xs, ys, v1, v2, same_t (s1.trans s2) hs, same_t (s1.trans s2) hs2, f1, f2⟩, ?_⟩
    rintro z H3 ⟨T, x, y, rfl, hT, rfl, hx, hy⟩
    have ex : x = v1 := Option.some.inj ((hx _ (same_t (s1.trans s2) hs)).symm.trans f1)
    have ey : y = v2 := Option.some.inj ((hy _ (same_t (s1.trans s2) hs2)).symm.trans f2)
    subst ex ey
    have g := Grow.new (o := .tup [x, y]) s2 hT
    exact ⟨_, g, .tup upd_same (.cons (dp_mono (s1.trans g.ii) g1) (.cons (dp_mono (s1.trans g.ii) g2) .nil))⟩
  · rw [List.length_map, List.length_zip, dpAll_len ha, dpAll_len hb]
    omega
variable {P : Program} {w : World} {K : PySem.W.Frag} {mg : Str → Option Value} {base : Heap} {N : List Str} {sc : Scope} {k : Nat} {pos p : Pos}
theorem zipTF (hX : XF P w K mg base N sc k X) {e e2 : Expr} {tpos : Pos} {elts : List Expr} {kk} {α β : Type} {enc1 : α → PyData} {enc2 : β → PyData} {xs : List α} {ys : List β} (hg : GlS sc "zip") (hm : mg "zip" = none) (h1 : Ev X A e (.dat (.tuple (xs.map enc1)))) (h2 : Ev X A e2 (.dat (.tuple (ys.map enc2))))
    (hs : starEach (e :: [e2]) X.env = (false, eval e X.env) :: starEach [e2] X.env := by rfl) (hs2 : starEach (e2 :: []) X.env = (false, eval e2 X.env) :: starEach [] X.env := by rfl) (hpl : (backTo pos (starEach [e2] X.env)).any (·.1) = false := by rfl) :
    EvI X A (.Tuple elts kk tpos) (.Call (.Name "zip" p) [e, e2] [] pos) ((xs.zip ys).map fun z => .tuple [enc1 z.1, enc2 z.2]) := by
  have es : ((xs.zip ys).map fun z => PyData.tuple [enc1 z.1, enc2 z.2]) = (((xs.map enc1).zip (ys.map enc2)).map fun p => PyData.tuple [p.1, p.2]) := by
    rw [List.zip_map, List.map_map]
    rfl
  rw [es]
  refine ⟨_, pi_zipA (hX.gl hg) (by rw [hX.eM]; exact hm) wa_pa hs hpl, fun I0 H0 σ I H rl R q => (ea_cons h1 (ea_cons h2 ea_nil hs2) hs) I0 H0 σ I H rl _ fun vs I1 H1 g hv => ?_⟩
  cases hv with
  | cons a1 b1 => cases b1 with
    | cons a2 b2 =>
      cases b2
      obtain ⟨a, us, rfl, k1, r1⟩ := dp_tup a1
      obtain ⟨b, ws, rfl, k2, r2⟩ := dp_tup a2
      exact ⟨a, b, us, ws, rfl, .inr ⟨same_t g.ih k1, same_t g.ih k2, q _ I1 H1 g (walks_zipT k1 k2 r1 r2)⟩⟩
/-- sorted(e, key=f) of encoded data -/
theorem sortF (hX : XF P w K mg base N sc k X) {e : Expr} {j : Nat} {pn y : Str} {R : List PyData → Res → Prop} {α : Type} {enc : α → PyData} {xs : List α} (key : α → Int) (dec : PyData → α) {np kp : Pos} (G : Fn P w K mg base j y [pn] R) (hj : j + 2 ≤ k) (hg : GlS sc "sorted") (hm : mg "sorted" = none) (hgy : GlS sc y) (h : EvS X A e true (xs.map enc))
    (hdec : ∀ x, dec (enc x) = x) (hR : ∀ x ∈ xs, R [enc x] (.ok (.dat (.int (key x))))) (hdb : (y == ("__debug__" : Str)) = false) (he : backTo pos (starEach (e :: []) X.env) = (false, eval e X.env) :: backTo pos (starEach [] X.env) := by rfl) (hpl : (backTo pos (starEach (e :: []) X.env)).any (·.1) = false := by rfl)
    (hall : (backToKw pos (keywordEach [⟨some (Str.ofString "key"), .Name y np, kp⟩] X.env)).all (·.1.isSome) = true := by rfl) (hnone : (backToKw pos (keywordEach [⟨some (Str.ofString "key"), .Name y np, kp⟩] X.env)).any (·.1.isNone) = false := by rfl) (hks : (backToKw pos (keywordEach [⟨some (Str.ofString "key"), .Name y np, kp⟩] X.env)).filterMap (·.1) = [Str.ofString "key"] := by rfl) (hs : starEach (e :: []) X.env = (false, eval e X.env) :: starEach [] X.env := by rfl) :
    Ev X A (.Call (.Name "sorted" p) [e] [⟨some (Str.ofString "key"), .Name y np, kp⟩] pos) (.own (.lst ((xs.mergeSort fun a b => decide (key a ≤ key b)).map enc))) := by
  have q := ev_sortF (key := fun d => key (dec d)) (hX.fnX G) (hX.room.mono hj) (hX.gl hg) (by rw [hX.eM]; exact hm) (hX.gl hgy) h (fun d hd => by
    obtain ⟨x, hx, rfl⟩ := List.mem_map.mp hd
    rw [hdec]
    exact hR x hx) hdb (by decide +kernel) he hpl hall hnone hks hs (p := p)
  rw [← List.map_mergeSort (r := fun a b => decide (key a ≤ key b)) (fun a _ b _ => by rw [hdec, hdec])] at q
  exact q
end
end LR

set_option Elab.async false
set_option linter.all false
set_option maxRecDepth 100000
set_option maxHeartbeats 4000000
/-! The layer LR, part s: zip of lists and tuples in any mix; xs[lo::st] with a reckoned step; [..] that is appended to at once. -/
namespace LR
open PySem PySem.Spec PyProof.Rows L2

/-- a list (true), a tuple (false) of the heap and its iterator -/
def SeqIs (k : Bool) (h : Heap) (a : Addr) (its : Array Value) : Prop := if k then h.IsList a its else h.IsTuple a its
def ItAt (k : Bool) (h : Heap) (it a : Addr) (i : Nat) : Prop := if k then h.IsListIter it a i else h.IsTupleIter it a i
def SqB (K : PySem.W.Frag) (k : Bool) (H : Hp) (a : Addr) (xs : List V) : Prop := if k then SqL K H a xs else SqT K H a xs
def itObj (k : Bool) (a : Addr) : Obj := { cls := .type (if k then "list_iterator" else "tuple_iterator"), data := .fields #[.ref a, .int 0 0] }
theorem sqB_same {K : PySem.W.Frag} {k : Bool} {H H' : Hp} {a : Addr} {xs : List V} (e : Same H H') (h : SqB K k H a xs) : SqB K k H' a xs := by
  cases k with
  | true => exact same_l e h
  | false => exact same_t e h
theorem seqB {X : Cx} {pins : List (Addr × Obj)} {σ : L2.St} {H : Hp} {s : Shared} {k : Bool} {a : Addr} {xs : List V} (I : Inv X pins σ H s) (h : SqB X.K k H a xs) : ∃ its : List Value, Vals xs its ∧ SeqIs k s.heap a its.toArray := by
  cases k with
  | true =>
    obtain ⟨its, r, p, _⟩ := I.list h
    exact ⟨its, r, p.isList⟩
  | false =>
    obtain ⟨its, r, p, _⟩ := I.tuple h
    exact ⟨its, r, p⟩
theorem sqB_inj {X : Cx} {pins : List (Addr × Obj)} {σ : L2.St} {H : Hp} {s : Shared} {k : Bool} {a : Addr} {xs ys : List V} (I : Inv X pins σ H s) (h : SqB X.K k H a xs) (h2 : SqB X.K k H a ys) : xs = ys := by
  cases k with
  | true => exact I.list_inj h h2
  | false => exact I.tuple_inj h h2
theorem drawsB {prog : Program} {w : World} {A : Around} (hh : A.handled = none) (k : Bool) (it a : Addr) (hne : a ≠ it) (its : Array Value) : Draws prog w A it [it, a] its.size (fun i v => its[i]? = some v) (fun i h => ItAt k h it a i ∧ SeqIs k h a its) := by
  cases k with
  | true => exact Draws.list hh it a hne its
  | false => exact Draws.tuple hh it a hne its
theorem itAt_at {k : Bool} {h h' : Heap} {it a : Addr} {i : Nat} (x : ItAt k h it a i) (e : ∀ o, h.get? it = some o → h'.get? it = some o) : ItAt k h' it a i := by
  cases k with
  | true => exact Heap.IsListIter.at x e
  | false => exact Heap.IsTupleIter.at x e
theorem itAt_get {k : Bool} {h : Heap} {it a : Addr} {i : Nat} (x : ItAt k h it a i) : ∃ o, h.get? it = some o ∧ ∀ v, o.data ≠ .cell v := by
  cases k with
  | true =>
    obtain ⟨o, e, _, d⟩ := x
    exact ⟨o, e, fun v z => by rw [d] at z; cases z⟩
  | false =>
    obtain ⟨o, e, _, d⟩ := x
    exact ⟨o, e, fun v z => by rw [d] at z; cases z⟩
theorem seqIs_lt {k : Bool} {h : Heap} {a : Addr} {its : Array Value} (x : SeqIs k h a its) : a < h.objs.size := by
  cases k with
  | true => obtain ⟨o, e, _⟩ := x; exact Heap.lt_size e
  | false => obtain ⟨o, e, _⟩ := x; exact Heap.lt_size e
theorem beginsB (k : Bool) (a : Addr) (its : Array Value) : Begins (.ref a) (itObj k a) fun h => SeqIs k h a its := by
  cases k with
  | true => exact begins_list a its
  | false => exact begins_tuple a its
theorem itObj_at {k : Bool} {h : Heap} {it a : Addr} (e : h.get? it = some (itObj k a)) : ItAt k h it a 0 := by
  cases k with
  | true => exact ⟨_, e, rfl, rfl⟩
  | false => exact ⟨_, e, rfl, rfl⟩
/-- zip of two, turn by turn: the items in new pairs -/
def ItzB (K : PySem.W.Frag) (k1 k2 : Bool) (a b : Addr) : It :=
  ⟨fun i H => ∃ (xs ys : List V) (x y : V), SqB K k1 H a xs ∧ SqB K k2 H b ys ∧ xs[i]? = some x ∧ ys[i]? = some y,
    fun i H v H' => ∃ T x y, v = .ref T ∧ H T = none ∧ H' = upd H T (.tup [x, y]) ∧ (∀ xs, SqB K k1 H a xs → xs[i]? = some x) ∧ ∀ ys, SqB K k2 H b ys → ys[i]? = some y,
    fun i H => ∃ xs ys : List V, SqB K k1 H a xs ∧ SqB K k2 H b ys ∧ i ≤ xs.length ∧ i ≤ ys.length ∧ (i = xs.length ∨ i = ys.length)⟩
theorem turn_zipB {P : Program} {w : World} {K : PySem.W.Frag} {elts : List Expr} {kk : Nat} {tpos : Pos} {k1 k2 : Bool} {a b z TI TO i1 i2 : Addr} (D : ZipApart z TI TO i1 i2 a b) :
    Turn P w K (.Tuple elts kk tpos) (ItzB K k1 k2 a b) [z, TI, TO, i1, i2] z (fun i h => IsZip h z TI TO .none ∧ IsTupOf2 h TI (.ref i1) (.ref i2) ∧ (∃ x y, IsTupOf2 h TO x y) ∧ ItAt k1 h i1 a i ∧ ItAt k2 h i2 b i) where
  mem := by simp
  obj := fun i h st c hc => by
    obtain ⟨hz, hTI, ⟨x, y, hTO⟩, h1, h2⟩ := st
    simp only [List.mem_cons, List.not_mem_nil, or_false] at hc
    rcases hc with rfl | rfl | rfl | rfl | rfl
    · exact ⟨_, hz, fun v q => nomatch q⟩
    · exact ⟨_, hTI, fun v q => nomatch q⟩
    · exact ⟨_, hTO, fun v q => nomatch q⟩
    · exact itAt_get h1
    · exact itAt_get h2
  keep := fun i h h' st k => by
    obtain ⟨hz, hTI, ⟨x, y, hTO⟩, h1, h2⟩ := st
    exact ⟨k z (by simp) _ hz, k TI (by simp) _ hTI, ⟨x, y, k TO (by simp) _ hTO⟩, itAt_at h1 fun o q => k i1 (by simp) o q, itAt_at h2 fun o q => k i2 (by simp) o q⟩
  item := by
    intro X hP hw hK hc i pins s σ H E I hf st hg
    subst hP hw hK
    obtain ⟨hz, hTI, ⟨x0, y0, hTO⟩, h1, h2⟩ := st
    obtain ⟨xs, ys, x, y, hqx, hqy, hx, hy⟩ := hg
    obtain ⟨its, rv, p⟩ := seqB I hqx
    obtain ⟨its2, rv2, p2⟩ := seqB I hqy
    obtain ⟨u, hu, ru⟩ := rv.get hx
    obtain ⟨u2, hu2, ru2⟩ := rv2.get hy
    have hzl : z < s.heap.objs.size := Heap.lt_size hz
    have S : ZipSep2 z TI TO i1 i2 [i1, a] [i2, b] := ⟨D.TIz, D.TOz, D.TITO, D.TIi1, by simp, by simp [D.i1z.symm, D.l1z.symm], by simp [D.TOi1, D.l1TO.symm], D.TIi2, by simp, by simp [D.i2z.symm, D.l2z.symm], by simp [D.TOi2, D.l2TO.symm], by simp [D.i12, D.l2i1.symm], by simp [D.i12.symm, D.l1i2.symm]⟩
    have hh : X.A.in1.handled = none := I.ok.hd hc
    have D1 := drawsB (prog := X.prog) (w := X.w) hh k1 i1 a D.l1i1 its.toArray
    have D2 := drawsB (prog := X.prog) (w := X.w) hh k2 i2 b D.l2i2 its2.toArray
    refine wpAny_pyNext_zipD2_item S D1 D2 hz hTI hTO ⟨h1, p⟩ ⟨h2, p2⟩ (by
      have := (List.getElem?_eq_some_iff.mp hu).1
      simpa using this) (by
      have := (List.getElem?_eq_some_iff.mp hu2).1
      simpa using this) fun x1 x2 h' tk e1 e2 z' TO' s1 s2 hT hsz hk => ?_
    have e1 : x1 = u := by
      have e1 : its[i]? = some x1 := by simpa using e1
      exact Option.some.inj (e1.symm.trans hu)
    have e2 : x2 = u2 := by
      have e2 : its2[i]? = some x2 := by simpa using e2
      exact Option.some.inj (e2.symm.trans hu2)
    subst e1 e2
    refine ⟨_, rfl, wpAny_letOwnedTupleGo_zip (s := { s with heap := h', toks := tk }) z' fun h'' z'' sb => ?_⟩
    have hT2 : h''.get? s.heap.objs.size = some { cls := .type "tuple", data := .seq #[x1, x2] } := (sb.2 _ (Nat.ne_of_gt hzl)).trans hT
    have new : ObjOk X.prog X.w (upd H s.heap.objs.size (.tup [x, y])) h'' s.heap.objs.size (.tup [x, y]) :=
      ⟨by show 2 ≤ sizeLine; decide, [x1, x2], .cons ru (.cons ru2 .nil), ⟨_, hT2, rfl, _, rfl⟩⟩
    have I1 : Inv X pins σ (upd H s.heap.objs.size (.tup [x, y])) { s with heap := h'', toks := tk } :=
      I.turnedNew (t' := tk) (ch := [z, TI, TO, i1, i2]) (fun c o hb q => (sb.2 c (fun q' => hb (by simp [q']))).trans (hk c o (fun q' => hb (by simp [q'])) (fun q' => hb (by simp [q'])) (fun q' => hb (by simp [q'])) (fun q' => hb (by simp [q'])) q)) hf (Nat.le_refl _) new
    refine ⟨.ref s.heap.objs.size, _, I1, rfl, ⟨_, x, y, rfl, I.hok.fresh (Nat.le_refl _), rfl, fun l hl => by rw [sqB_inj I hl hqx]; exact hx, fun l hl => by rw [sqB_inj I hl hqy]; exact hy⟩, ⟨z'', ?_, ⟨x1, x2, ?_⟩, ?_, ?_⟩, fun c hcm => ?_⟩
    · exact (sb.2 _ D.TIz).trans (hk _ _ D.TIz D.TITO D.TIi1 D.TIi2 hTI)
    · exact (sb.2 _ D.TOz).trans TO'
    · exact itAt_at s1.1 fun o q => (sb.2 _ D.i1z).trans q
    · exact itAt_at s2.1 fun o q => (sb.2 _ D.i2z).trans q
    · have hlt : c < s.heap.objs.size := by
        have hcm' := hcm
        simp only [List.mem_cons, List.not_mem_nil, or_false] at hcm'
        rcases hcm' with rfl | rfl | rfl | rfl | rfl
        · exact hzl
        · exact Heap.lt_size hTI
        · exact Heap.lt_size hTO
        · obtain ⟨_, e, _⟩ := itAt_get h1; exact Heap.lt_size e
        · obtain ⟨_, e, _⟩ := itAt_get h2; exact Heap.lt_size e
      rw [upd_ne (Nat.ne_of_lt hlt)]
      exact (hf c hcm).1
  done := by
    intro X hP hw hK hc i pins s σ H E I hf st hg
    subst hP hw hK
    obtain ⟨hz, hTI, ⟨x0, y0, hTO⟩, h1, h2⟩ := st
    obtain ⟨xs, ys, hqx, hqy, l1, l2, l3⟩ := hg
    obtain ⟨its, rv, p⟩ := seqB I hqx
    obtain ⟨its2, rv2, p2⟩ := seqB I hqy
    have e1 := rv.length
    have e2 := rv2.length
    have S : ZipSep2 z TI TO i1 i2 [i1, a] [i2, b] := ⟨D.TIz, D.TOz, D.TITO, D.TIi1, by simp, by simp [D.i1z.symm, D.l1z.symm], by simp [D.TOi1, D.l1TO.symm], D.TIi2, by simp, by simp [D.i2z.symm, D.l2z.symm], by simp [D.TOi2, D.l2TO.symm], by simp [D.i12, D.l2i1.symm], by simp [D.i12.symm, D.l1i2.symm]⟩
    have hh : X.A.in1.handled = none := I.ok.hd hc
    have D1 := drawsB (prog := X.prog) (w := X.w) hh k1 i1 a D.l1i1 its.toArray
    have D2 := drawsB (prog := X.prog) (w := X.w) hh k2 i2 b D.l2i2 its2.toArray
    exact wpAny_pyNext_zipD2_end S D1 D2 hz hTI hTO ⟨h1, p⟩ ⟨h2, p2⟩ (by simp; omega) (by simp; omega) (by simp; omega) fun h' tk hk =>
      ⟨rfl, I.turnedL (t' := tk) (ch := [z, TI, TO, i1, i2]) (fun c o hb q => hk c o (fun q' => hb (by simp [q'])) (fun q' => hb (by simp [q'])) (fun q' => hb (by simp [q'])) (fun q' => hb (by simp [q'])) q) hf⟩
  self := fun A i s Q E st h => wpAny_pyIter_zip st.1 h
def iZipB (K : PySem.W.Frag) (k1 k2 : Bool) (ta : TA) : TI := fun σ H R => ta σ H fun vs H1 => ∃ a b xs ys, vs = [.ref a, .ref b] ∧ SqB K k1 H1 a xs ∧ SqB K k2 H1 b ys ∧ R (ItzB K k1 k2 a b) H1
theorem pi_zipB {X : Cx} {e e2 : Expr} {ta : TA} {p pos tpos : Pos} {elts : List Expr} {kk : Nat} {k1 k2 : Bool} (hg : Gl X "zip") (hm : X.mg "zip" = none) (ha : PA X [e, e2] ta)
    (hs : starEach [e, e2] X.env = (false, eval e X.env) :: starEach [e2] X.env := by rfl) (hpl : (backTo pos (starEach [e2] X.env)).any (·.1) = false := by rfl) :
    PI X (.Tuple elts kk tpos) (.Call (.Name "zip" p) [e, e2] [] pos) (iZipB X.K k1 k2 ta) := by
  refine ⟨fun pins s σ H R I h => ?_⟩
  refine Call_ (ld_blt I hg hm PyProof.Rows.boot_zip (PyProof.Rows.callWith_type1 (thn (ha.run pos pins s σ H _ I h) fun us s1 ⟨vs, H1, I1, r1, q1⟩ => ?_) hs hpl))
  obtain ⟨a, b, xs, ys, rfl, hqx, hqy, q⟩ := q1
  cases r1 with
  | cons r rr =>
    cases rr with
    | cons r' rr =>
      cases rr
      cases r
      cases r'
      obtain ⟨its, rv, p1⟩ := seqB I1 hqx
      obtain ⟨its2, rv2, p2⟩ := seqB I1 hqy
      refine zip_begins2 (beginsB k1 a its.toArray) (beginsB k2 b its2.toArray) p1 p2 fun h' hz hTI hTO g1 g2 hsz hk => wpAny_pyIter_zip hz ?_
      have I2 : Inv X pins σ H1 { s1 with heap := h' } := I1.kept (t' := s1.toks) hk
      refine ⟨s1.heap.objs.size + 4, [s1.heap.objs.size + 4, s1.heap.objs.size + 2, s1.heap.objs.size + 3, s1.heap.objs.size, s1.heap.objs.size + 1], _, _, H1, rfl, I2, turn_zipB (k1 := k1) (k2 := k2) (PySem.W.ktu_apart s1.heap.objs.size a b (seqIs_lt p1) (seqIs_lt p2)), ⟨hz, hTI, ⟨_, _, hTO⟩, itObj_at g1, itObj_at g2⟩, fun c hcm => ?_, q⟩
      have hle : s1.heap.objs.size ≤ c := by
        simp only [List.mem_cons, List.not_mem_nil, or_false] at hcm
        rcases hcm with z | z | z | z | z
        · rw [z]; exact Nat.le_add_right _ _
        · rw [z]; exact Nat.le_add_right _ _
        · rw [z]; exact Nat.le_add_right _ _
        · rw [z]; exact Nat.le_refl _
        · rw [z]; exact Nat.le_add_right _ _
      exact I1.fpOk hle (I1.hok.fresh hle)
theorem walks_zipB {K : PySem.W.Frag} {I1 : Hp} {k1 k2 : Bool} {a b : Addr} {xs ys : List V} {src src2 : List PyData} (hs : SqB K k1 I1 a xs) (hs2 : SqB K k2 I1 b ys) (ha : DpAll K I1 xs src) (hb : DpAll K I1 ys src2) :
    Walks K (ItzB K k1 k2 a b) I1 ((src.zip src2).map fun p => PyData.tuple [p.1, p.2]) := by
  have l1 := dpAll_len ha
  have l2 := dpAll_len hb
  refine ⟨fun i d e I2 H2 s1 s2 => ?_, fun I2 H2 s1 s2 => ⟨xs, ys, sqB_same (s1.trans s2) hs, sqB_same (s1.trans s2) hs2, ?_⟩⟩
  · obtain ⟨d1, d2, e1, e2, rfl⟩ := dpAll_zip (K := K) (I := I1) e
    obtain ⟨v1, f1, g1⟩ := dpAll_get ha e1
    obtain ⟨v2, f2, g2⟩ := dpAll_get hb e2
    refine ⟨⟨xs, ys, v1, v2, sqB_same (s1.trans s2) hs, sqB_same (s1.trans s2) hs2, f1, f2⟩, ?_⟩
    rintro z H3 ⟨T, x, y, rfl, hT, rfl, hx, hy⟩
    have ex : x = v1 := Option.some.inj ((hx _ (sqB_same (s1.trans s2) hs)).symm.trans f1)
    have ey : y = v2 := Option.some.inj ((hy _ (sqB_same (s1.trans s2) hs2)).symm.trans f2)
    subst ex ey
    have g := Grow.new (o := .tup [x, y]) s2 hT
    exact ⟨_, g, .tup upd_same (.cons (dp_mono (s1.trans g.ii) g1) (.cons (dp_mono (s1.trans g.ii) g2) .nil))⟩
  · rw [List.length_map, List.length_zip, ← l1, ← l2]
    omega
section
variable {X : Cx} {A : List C} {P : Program} {w : World} {K : PySem.W.Frag} {mg : Str → Option Value} {base : Heap} {N : List Str} {sc : Scope} {k : Nat} {pos p : Pos}
/-- zip(e, e2): data, the kinds told -/
theorem zipBF (hX : XF P w K mg base N sc k X) {e e2 : Expr} {tpos : Pos} {elts : List Expr} {kk} (k1 k2 : Bool) {α β : Type} {enc1 : α → PyData} {enc2 : β → PyData} {xs : List α} {ys : List β} (hg : GlS sc "zip") (hm : mg "zip" = none) (h1 : Ev X A e (.dat (if k1 then .list (xs.map enc1) else .tuple (xs.map enc1)))) (h2 : Ev X A e2 (.dat (if k2 then .list (ys.map enc2) else .tuple (ys.map enc2))))
    (hs : starEach (e :: [e2]) X.env = (false, eval e X.env) :: starEach [e2] X.env := by rfl) (hs2 : starEach (e2 :: []) X.env = (false, eval e2 X.env) :: starEach [] X.env := by rfl) (hpl : (backTo pos (starEach [e2] X.env)).any (·.1) = false := by rfl) :
    EvI X A (.Tuple elts kk tpos) (.Call (.Name "zip" p) [e, e2] [] pos) ((xs.zip ys).map fun z => .tuple [enc1 z.1, enc2 z.2]) := by
  have es : ((xs.zip ys).map fun z => PyData.tuple [enc1 z.1, enc2 z.2]) = (((xs.map enc1).zip (ys.map enc2)).map fun p => PyData.tuple [p.1, p.2]) := by
    rw [List.zip_map, List.map_map]
    rfl
  rw [es]
  refine ⟨_, pi_zipB (k1 := k1) (k2 := k2) (hX.gl hg) (by rw [hX.eM]; exact hm) wa_pa hs hpl, fun I0 H0 σ I H rl R q => (ea_cons h1 (ea_cons h2 ea_nil hs2) hs) I0 H0 σ I H rl _ fun vs I1 H1 g hv => ?_⟩
  have both : ∀ {k : Bool} {v : V} {ds : List PyData}, Dp X.K I1 v (if k then .list ds else .tuple ds) → ∃ a xs, v = .ref a ∧ SqB X.K k I1 a xs ∧ DpAll X.K I1 xs ds := by
    intro k v ds h
    cases k with
    | true => exact dp_lst h
    | false => exact dp_tup h
  cases hv with
  | cons a1 b1 => cases b1 with
    | cons a2 b2 =>
      cases b2
      obtain ⟨a, us, rfl, k1', r1⟩ := both a1
      obtain ⟨b, ws, rfl, k2', r2⟩ := both a2
      exact ⟨a, b, us, ws, rfl, sqB_same g.ih k1', sqB_same g.ih k2', q _ I1 H1 g (walks_zipB k1' k2' r1 r2)⟩
/-- for x, y in ..: the state ahead of turn i is inv i -/
theorem forZ (hX : XF P w K mg base N sc k X) {α : Type} {body : List Stmt} {e : Expr} {x y : Str} {px py tpos : Pos} {kk} {src : List PyData} (i j : Nat) (xs : List α) (enc1 enc2 : α → PyData) (inv : Nat → List C) (hi : EvI X A (.Tuple [.Name x px, .Name y py] kk tpos) e src) (hsrc : src = xs.map fun z => .tuple [enc1 z, enc2 z])
    (g1 : PG X (.Name x px) (gName i)) (g2 : PG X (.Name y py) (gName j)) (h0 : LeA A (inv 0)) (hi2 : ∀ n, (inv n)[i]?.isSome = true) (hj2 : ∀ n, (inv n)[j]?.isSome = true)
    (hb : ∀ (n : Nat) (hn : n < xs.length), Sm X (((inv n).set i (.dat (enc1 xs[n]))).set j (.dat (enc2 xs[n]))) body (.nx (inv (n + 1)))) (hs : ∀ x, foldedSetIterable e X.env x = pure x := by intro _; rfl) : S1 X A (.For (.Tuple [.Name x px, .Name y py] kk tpos) e body [] pos) (.nx (inv xs.length)) := by
  subst hsrc
  refine s1_for (g := gTup X.K [i, j].length (gNames [i, j])) (U := uTup [i, j]) hX.pass hX.calm hi (pg_tup (es := [.Name x px, .Name y py]) hX.calm (pgs_cons (e := .Name x px) (es := [.Name y py]) g1 (pgs_cons (e := .Name y py) (es := []) g2 pgs_nil))) tg_tup inv xs.length (by simp) h0 (fun n d hn hd => ?_) (.inl ⟨by simp, rfl⟩) hs
  rw [List.getElem?_map, List.getElem?_eq_getElem hn] at hd
  cases hd
  refine ⟨_, ⟨_, rfl, _, _, rfl, hi2 n, _, _, rfl, ?_, rfl, rfl⟩, hb n hn⟩
  have := hj2 n
  by_cases hij : i = j
  · subst hij
    rw [List.getElem?_set_self (lt_of_some this)]; rfl
  · rw [List.getElem?_set_ne hij]; exact this
/-! xs[lo::st], the step reckoned -/
def tStV (K : PySem.W.Frag) (te tl ts : TE) (c : Int) : TE := fun σ H Q => te σ H fun x H1 => tPart tl σ H1 fun o H2 => tPart ts σ H2 fun o2 H3 => o2 = some c ∧ ∃ a xs, x = .ref a ∧ SqL K H3 a xs ∧ ∀ p, H3 p = none → Q (.ref p) (upd H3 p (.lst (cutS xs o none (some c))))
theorem pe_stepV {e lo st : Expr} {te tl ts : TE} {c : Int} {p3 : Pos} (h0 : c ≠ 0) (he : PE X e te) (hl : PE X lo tl) (hst : PE X st ts) : PE X (.Subscript e (.Slice (some lo) none (some st) p3) pos) (tStV X.K te tl ts c) := by
  refine ⟨fun pins s σ H Q I h => ?_⟩
  refine Subscript_ (thn (he.run pins s σ H _ I h) fun v s1 ⟨x, H1, I1, r1, q1⟩ => ?_)
  refine wpAny_Slice (thn ((po_some hl).run pins s1 σ H1 _ I1 q1) fun vl s2 ⟨l, H2, I2, pl, q2⟩ => ?_)
  refine thn (po_none.run pins s2 σ H2 (fun o H3 => o = none ∧ H3 = H2) I2 ⟨rfl, rfl⟩) fun vu s3 ⟨u, H3, I3, pu, eu, e3⟩ => ?_
  subst eu e3
  refine thn ((po_some hst).run pins s3 σ H3 _ I3 q2) fun vs s4 ⟨o, H4, I4, ps, eo, a, xs, ex, hx, q⟩ => ?_
  subst eo ex
  cases r1
  have I5 : Inv X pins σ H4 { s4 with heap := s4.heap.push { cls := .type "slice", data := .fields #[vl, vu, vs] } } := I4.kept (t' := s4.toks) fun b ob q => Heap.get?_push_of_some _ q
  obtain ⟨its, r, ht, hz⟩ := I5.list hx
  have hlen := r.length
  show wpAny (model X.prog X.w) X.A (subscriptTail e (.Slice (some lo) none (some st) p3) (.ref a) (.ref s4.heap.objs.size)) (EP X pins σ Q) X.xe { s4 with heap := s4.heap.push { cls := .type "slice", data := .fields #[vl, vu, vs] } }
  refine tail_any (ops := [.ref a, .ref s4.heap.objs.size]) ht.isList.typeIs (PySem.slot_list_getitem.lookup) ?_ (by with_unfolding_all rfl)
  refine wpAny_getItem_list_slice ht.isList (Heap.IsSliceOf.new _ vl vu vs) pl pu ps (fun z => h0 (by cases z; rfl)) ?_ (by rw [List.size_toArray]; omega)
  have hsz := slicePick_size_le its.toArray l none (some c)
  rw [cutS_pick] at hsz ⊢
  rw [List.size_toArray, List.size_toArray] at hsz
  have hr : Vals (cutS xs l none (some c)) (cutS its l none (some c)) := by
    unfold cutS
    rw [hlen]
    exact pick_rel r _
  refine ⟨.ref _, _, I5.laid (t' := s4.toks) (o := .lst (cutS xs l none (some c))) (fun b ob q => Heap.get?_push_of_some _ q) (Nat.le_refl _) ?_, rfl, q _ (I5.hok.fresh (Nat.le_refl _))⟩
  exact ⟨by rw [hr.length]; omega, _, 0, hr, Heap.get?_push_size _ rfl⟩
theorem ev_stepV {e lo st : Expr} {l c : Int} {p3 : Pos} {ds : List PyData} (h : EvS X A e true ds) (hl : Ev X A lo (.dat (.int l))) (hc : Ev X A st (.dat (.int c))) (h0 : c ≠ 0) : Ev X A (.Subscript e (.Slice (some lo) none (some st) p3) pos) (.own (.lst (cutS ds (some l) none (some c)))) := fun I0 H0 σ I H rl Q q =>
  wx_of (pe_stepV h0 wx_pe wx_pe wx_pe) (h I0 H0 σ I H rl _ fun p vs I1 H1 g1 hk ha => hl I0 H0 σ I1 H1 (rl.grow g1) _ fun i I2 H2 g2 hi =>
    ⟨l, dp_int hi, hc I0 H0 σ I2 H2 ((rl.grow g1).grow g2) _ fun i2 I3 H3 g3 hi2 => ⟨c, dp_int hi2, rfl, p, vs, rfl, same_l (g2.trans g3).hh hk, fun r hr => by
      have g := (g1.trans g2).trans g3
      have g4 := Grow.newH (o := .lst (cutS vs (some l) none (some c))) g3.ih hr
      refine q _ _ _ (g.trans g4) ⟨r, _, rfl, g.hh.free hr, g3.ih.free hr, upd_same, ?_⟩
      have hd := dpAll_mono (g2.trans g3).ii ha
      show DpAll X.K I3 (cutS vs _ _ _) (cutS ds _ _ _)
      unfold cutS
      rw [dpAll_len hd]
      exact pick_dp hd _⟩⟩)
/-- e.count(k) -/
theorem ev_count {e e2 : Expr} {ns : List Int} {c : Int} {p2 p3 : Pos} (h1 : EvS X A e true (ns.map .int)) (h2 : Ev X A e2 (.dat (.int c))) (hbase : attributeBase e "count" X.env (eval e X.env) = eval e X.env := by rfl) (hs : starEach (e2 :: []) X.env = (false, eval e2 X.env) :: starEach [] X.env := by rfl)
    (hpl : ((backTo p3 (starEach (e2 :: []) X.env)).all (fun x => !x.1) && (backToKw p3 (keywordEach [] X.env)).all (fun x => x.1.isSome) && decide (([e2] : List Expr).length + ([] : List Keyword).length + (if ([] : List Keyword).isEmpty then 0 else 1) < 30)) = true := by rfl) (hline : (p2.endLine == p3.line) = true := by rfl) :
    Ev X A (.Call (.Attribute e "count" p2) [e2] [] p3) (.dat (.int (ns.count c : Nat))) := fun I0 H0 σ I H rl Q q =>
  wx_of (pe_bm PySem.F.plainAttrs_list PySem.F.slot_list_count PySem.F.type_list_count mt_lcount wx_pe (pa_cons wx_pe pa_nil hs) (hbase := hbase) (hfew := hpl) (hline := hline) (hs := hs) (hplain := rfl)) (h1 I0 H0 σ I H rl _ fun a vs I1 H1 g1 hk ha => ⟨.inl ⟨rfl, _, hk⟩, h2 I0 H0 σ I1 H1 (rl.grow g1) _ fun v I2 H2 g2 hv => by
    have hv := dp_int hv
    subst hv
    refine ⟨a, ns, c, rfl, rfl, ?_, q _ I2 H2 (g1.trans g2) (.int _)⟩
    have := ints_of ha
    subst this
    exact same_l g2.hh hk⟩)
/-- e.append(d), e a list of its own -/
theorem s1_appE {e e2 : Expr} {ds : List PyData} {d : PyData} {p2 p3 p4 : Pos} (h1 : Ev X A e (.own (.lst ds))) (h2 : Ev X A e2 (.dat d)) (hz : ds.length < sizeLine) (hbase : attributeBase e "append" X.env (eval e X.env) = eval e X.env := by rfl) (hs : starEach (e2 :: []) X.env = (false, eval e2 X.env) :: starEach [] X.env := by rfl)
    (hpl : ((backTo p3 (starEach (e2 :: []) X.env)).all (fun x => !x.1) && (backToKw p3 (keywordEach [] X.env)).all (fun x => x.1.isSome) && decide (([e2] : List Expr).length + ([] : List Keyword).length + (if ([] : List Keyword).isEmpty then 0 else 1) < 30)) = true := by rfl) (hline : (p2.endLine == p3.line) = true := by rfl)
    (hsw : swapsWith (.Call (.Attribute e "append" p2) [e2] [] p3) none p4.line X.env = pure false := by rfl) : S1 X A (.Expr (.Call (.Attribute e "append" p2) [e2] [] p3) p4) (.nx A) := fun I0 H0 σ I H rl D f =>
  ws_of (ps_expr (pe_bm PySem.F.plainAttrs_list PySem.F.slot_list_append PySem.F.type_list_append mt_append wx_pe (pa_cons wx_pe pa_nil hs) (hbase := hbase) (hfew := hpl) (hline := hline) (hs := hs) (hplain := rfl)) hsw) (h1 I0 H0 σ I H rl _ fun v I1 H1 g1 hv => by
    obtain ⟨a, o, rfl, n0, n1, ho, hb⟩ := hv
    obtain ⟨vs, rfl, ha⟩ := obAt_lst hb
    refine ⟨.inl ⟨rfl, _, .inl (.inl ho)⟩, h2 I0 H0 σ I1 H1 (rl.grow g1) _ fun u I2 H2 g2 hu => ⟨a, vs, u, rfl, rfl, g2.hh _ _ ho, by rw [dpAll_len ha]; exact hz, ?_⟩⟩
    have g := (g1.trans g2).mut (o := .lst (vs ++ [u])) n0 (g2.nw a _ ho n1)
    exact f σ I2 _ g.ii (rl.grow g))
/-- name = [.. for x, y in ..] -/
theorem setLcZ (hX : XF P w K mg base N sc k X) {α : Type} {elt iter : Expr} {scope : Scope} {src : List PyData} {x y z : Str} {px p3 p4 pz spos : Pos} {kk} (l i j : Nat) (xs : List α) (enc1 enc2 : α → PyData) (f : α → PyData) (hi : EvI X A (.Tuple [.Name x px, .Name y p3] kk p4) iter src) (hsrc : src = xs.map fun z => .tuple [enc1 z, enc2 z]) (ok : blkC N sc scope [(x, i), (y, j)] = true)
    (hNi : N[i]? = some x) (hNj : N[j]? = some y) (hx : (relS scope sc).names.lookup x = some .local) (hy : (relS scope sc).names.lookup y = some .local) (hij : i ≠ j) (hz : xs.length < sizeLine) (hi' : A[i]?.isSome = true) (hj : A[j]?.isSome = true)
    (hb : ∀ Y, XF P w K mg base N (relS scope sc) k Y → ∀ z ∈ xs, Ev Y ((((A.set j .un).set i .un).set i (.dat (enc1 z))).set j (.dat (enc2 z))) elt (.dat (f z)))
    (hzN : N[l]? = some z) (hzl : sc.names.lookup z = some .local) (hzj : A[l]?.isSome = true) (hk : sc.kind = .function) (hl : (pz.line == pos.line) = true) (ha : (scope.names.any fun (n, k) => n == z && (k == .local || k == .cell)) = false)
    (hs : ∀ x, foldedSetIterable iter X.env x = pure x := by intro _; rfl) : S1 X A (.Assign [.Name z pz] (.ListComp elt [⟨.Tuple [.Name x px, .Name y p3] kk p4, iter, [], 0⟩] scope pos) spos) (.nx (A.set l (.own (.lst (xs.map f))))) := by
  have l1 := lt_of_some hi'
  have l2 := lt_of_some hj
  have q := s1_setLc (own := [(x, i), (y, j)]) (g := gTup X.K [i, j].length (gNames [i, j])) (U := uTup [i, j]) (A := A) (elt := elt) (ifs := []) (pos := pos) (spos := spos) (py := pz) xs (fun z => .tuple [enc1 z, enc2 z]) (fun _ => true) f hX.calm hX.ndX hi hsrc (by rw [hX.eN, hX.eS]; exact blkOk_by ok)
    (fun s H C cl fp => pg_tup (es := [.Name x px, .Name y p3]) hX.calm (pgs_cons (e := .Name x px) (es := [.Name y p3]) (tgB hX.blk i hNi hx) (pgs_cons (e := .Name y p3) (es := []) (tgB hX.blk j hNj hy) pgs_nil))) tg_tup (tgw_two hij) (Nat.zero_le _) hz
    (fun z hz => ⟨_, ⟨_, rfl, _, _, rfl, by
      show ((((A.set j .un).set i .un))[i]?).isSome = true
      rw [List.getElem?_set_self (by simpa using l1)]; rfl, _, _, rfl, by
      show (((((A.set j .un).set i .un)).set i _)[j]?).isSome = true
      rw [List.getElem?_set_ne hij, List.getElem?_set_ne hij, List.getElem?_set_self l2]; rfl, rfl, rfl⟩, rfl, fun h s H C cl fp => hb _ hX.blk z hz⟩) hs (i := l) (y := z) (by rw [hX.eN]; exact hzN) (by rw [hX.eS]; exact hzl) (sw_true (by rw [hX.eS]; exact hk) (by rw [hX.eS]; exact hzl) hl ha) hzj
  rw [List.filter_eq_self.mpr fun _ _ => rfl] at q
  exact q
/-! xs[::-1] of a list -/
theorem cutS_rev {α : Type} (xs : List α) : cutS xs none none (some (-1)) = xs.reverse := by
  have eb : sliceBounds none none (some (-1)) xs.length = ((xs.length : Int) - 1, -1, -1) := rfl
  unfold cutS
  rw [eb]
  have er : sliceRange ((xs.length : Int) - 1) (-1) (-1) = (List.range xs.length).map fun k : Nat => (((xs.length : Int) - 1) + (-1) * (k : Int)).toNat := by
    unfold sliceRange
    have ec : (if (-1 : Int) > 0 then (if (xs.length : Int) - 1 < -1 then (-1 - ((xs.length : Int) - 1) + (-1) - 1) / (-1) else 0) else (if (xs.length : Int) - 1 > -1 then ((xs.length : Int) - 1 - (-1) - (-1) - 1) / (-(-1)) else 0)).toNat = xs.length := by
      rw [if_neg (by omega)]
      split
      · simp
      · omega
    simp only [ec]
  show ((sliceRange ((xs.length : Int) - 1) (-1) (-1)).filterMap (xs[·]?)) = _
  rw [er, List.filterMap_map, ← rev_pick xs]
  refine fm_congr fun k _ => ?_
  show xs[(((xs.length : Int) - 1) + (-1) * (k : Int)).toNat]? = xs[(((xs.length : Int) - 1) + (k : Int) * (-1)).toNat]?
  congr 1
  omega
def tRevL (K : PySem.W.Frag) (te ts : TE) : TE := fun σ H Q => te σ H fun x H1 => tPart ts σ H1 fun o H2 => o = some (-1) ∧ ∃ a xs, x = .ref a ∧ SqL K H2 a xs ∧ ∀ p, H2 p = none → Q (.ref p) (upd H2 p (.lst xs.reverse))
theorem pe_revL {e st : Expr} {te ts : TE} {p3 : Pos} (he : PE X e te) (hst : PE X st ts) : PE X (.Subscript e (.Slice none none (some st) p3) pos) (tRevL X.K te ts) := by
  refine ⟨fun pins s σ H Q I h => ?_⟩
  refine Subscript_ (thn (he.run pins s σ H _ I h) fun v s1 ⟨x, H1, I1, r1, q1⟩ => ?_)
  refine wpAny_Slice (thn (po_none.run pins s1 σ H1 (fun o H3 => o = none ∧ H3 = H1) I1 ⟨rfl, rfl⟩) fun vl s2 ⟨l, H2, I2, pl, el, e2⟩ => ?_)
  subst el e2
  refine thn (po_none.run pins s2 σ H2 (fun o H3 => o = none ∧ H3 = H2) I2 ⟨rfl, rfl⟩) fun vu s3 ⟨u, H3, I3, pu, eu, e3⟩ => ?_
  subst eu e3
  refine thn ((po_some hst).run pins s3 σ H3 _ I3 q1) fun vs s4 ⟨o, H4, I4, ps, eo, a, xs, ex, hx, q⟩ => ?_
  subst eo ex
  cases r1
  have I5 : Inv X pins σ H4 { s4 with heap := s4.heap.push { cls := .type "slice", data := .fields #[vl, vu, vs] } } := I4.kept (t' := s4.toks) fun b ob q => Heap.get?_push_of_some _ q
  obtain ⟨its, r, ht, hz⟩ := I5.list hx
  have hlen := r.length
  show wpAny (model X.prog X.w) X.A (subscriptTail e (.Slice none none (some st) p3) (.ref a) (.ref s4.heap.objs.size)) (EP X pins σ Q) X.xe { s4 with heap := s4.heap.push { cls := .type "slice", data := .fields #[vl, vu, vs] } }
  refine tail_any (ops := [.ref a, .ref s4.heap.objs.size]) ht.isList.typeIs (PySem.slot_list_getitem.lookup) ?_ (by with_unfolding_all rfl)
  refine wpAny_getItem_list_slice ht.isList (Heap.IsSliceOf.new _ vl vu vs) pl pu ps (fun z => by cases z) ?_ (by rw [List.size_toArray]; omega)
  rw [cutS_pick, cutS_rev]
  have hr := vals_rev r
  refine ⟨.ref _, _, I5.laid (t' := s4.toks) (o := .lst xs.reverse) (fun b ob q => Heap.get?_push_of_some _ q) (Nat.le_refl _) ?_, rfl, q _ (I5.hok.fresh (Nat.le_refl _))⟩
  exact ⟨by rw [List.length_reverse]; exact hz, _, 0, hr, Heap.get?_push_size _ rfl⟩
theorem ev_revL {e st : Expr} {p3 : Pos} {α : Type} {enc : α → PyData} {xs : List α} (h : EvS X A e true (xs.map enc)) (hc : Ev X A st (.dat (.int (-1)))) : Ev X A (.Subscript e (.Slice none none (some st) p3) pos) (.own (.lst (xs.reverse.map enc))) := fun I0 H0 σ I H rl Q q =>
  wx_of (pe_revL wx_pe wx_pe) (h I0 H0 σ I H rl _ fun p vs I1 H1 g1 hk ha => hc I0 H0 σ I1 H1 (rl.grow g1) _ fun i2 I3 H3 g3 hi2 => ⟨-1, dp_int hi2, rfl, p, vs, rfl, same_l g3.hh hk, fun r hr => by
      have g := g1.trans g3
      have g4 := Grow.newH (o := .lst vs.reverse) g3.ih hr
      refine q _ _ _ (g.trans g4) ⟨r, _, rfl, g.hh.free hr, g3.ih.free hr, upd_same, ?_⟩
      show DpAll X.K I3 vs.reverse _
      rw [List.map_reverse]
      exact dpAll_reverse (dpAll_mono g3.ii ha)⟩)
/-! xs + ys of lists that are read -/
def rCatQ (K : PySem.W.Frag) : R2 := fun x y H Q => ∃ l b xs zs, x = .ref l ∧ y = .ref b ∧ SqL K H l xs ∧ SqL K H b zs ∧ xs.length + zs.length ≤ sizeLine ∧ ∀ p, H p = none → Q (.ref p) (upd H p (.lst (xs ++ zs)))
theorem op_catQ : OpR X (binaryOp .Add) (rCatQ X.K) := by
  intro pins s σ H x y v u Q I rx ry h
  obtain ⟨l, b, xs, zs, rfl, rfl, hH, hB, hz, q⟩ := h
  cases rx
  cases ry
  obtain ⟨its, r, ⟨⟨cls, dd, data, sl⟩, n, ho, hc, hdn, hd⟩, hl⟩ := I.list hH
  obtain ⟨its2, r2, ⟨⟨cls2, dd2, data2, sl2⟩, n2, ho2, hc2, hdn2, hd2⟩, hl2⟩ := I.list hB
  simp only at hc hd hc2 hd2
  subst hc hd hc2 hd2
  have e1 := r.length
  have e2 := r2.length
  refine concat_meets ⟨_, ho, rfl⟩ ⟨_, ho2, rfl⟩ PySem.noFill_list_add PySem.seq_list_add PySem.F.slot_list_add PySem.F.entry_list_add (PySem.F.args_list_add_2 _ _) (PyProof.Rows.list_addW l b its.toArray its2.toArray n n2 dd dd2 sl sl2 (by rw [List.size_toArray, List.size_toArray]; omega)) ⟨ho, ho2, ?_⟩
  have ea : its.toArray ++ its2.toArray = (its ++ its2).toArray := by simp
  rw [ea]
  exact ⟨.ref _, _, I.lnew (t' := s.toks) (r.append r2) (by rw [List.length_append]; omega), rfl, q _ I.fresh⟩
theorem ev_catS {a b : Expr} {ds es : List PyData} (h1 : EvS X A a true ds) (h2 : EvS X A b true es) (hz : ds.length + es.length ≤ sizeLine) : Ev X A (.BinOp a .Add b pos) (.own (.lst (ds ++ es))) := fun I0 H0 σ I H rl Q q =>
  wx_of (pe_op op_catQ wx_pe wx_pe) (h1 I0 H0 σ I H rl _ fun p xs I1 H1 g1 hp ha => h2 I0 H0 σ I1 H1 (rl.grow g1) _ fun p2 ys I2 H2 g2 hp2 hb =>
    ⟨p, p2, xs, ys, rfl, rfl, same_l g2.hh hp, hp2, by rw [dpAll_len ha, dpAll_len hb]; exact hz, fun l hl => by
      have g3 := Grow.newH (o := .lst (xs ++ ys)) g2.ih hl
      exact q _ _ _ ((g1.trans g2).trans g3) ⟨l, _, rfl, (g1.trans g2).hh.free hl, g2.ih.free hl, upd_same, dpAll_append (dpAll_mono g2.ii ha) hb⟩⟩)
end
end LR

set_option Elab.async false
set_option linter.all false
set_option maxRecDepth 100000
set_option maxHeartbeats 4000000
/-! The layer LR, part t: a def called with an own list that stays an own list. -/
namespace LR
open PySem PySem.Spec PyProof.Rows L2

mutual
/-- no list within -/
def noL : PyData → Bool
  | .list _ => false
  | .tuple xs => noLs xs
  | .dict _ => false
  | _ => true
def noLs : List PyData → Bool
  | [] => true
  | x :: r => noL x && noLs r
end
def forget (I : Hp) (p : Addr) : Hp := fun b => if b = p then none else I b
section
variable {K : PySem.W.Frag}
mutual
theorem dp_forget {I : Hp} {p : Addr} {us : List V} (hp : I p = some (.lst us)) : ∀ {v : V} {d : PyData}, Dp K I v d → noL d = true → Dp K (forget I p) v d
  | _, _, .non, _ => .non
  | _, _, .bl b, _ => .bl b
  | _, _, .int i, _ => .int i
  | _, _, .str x, _ => .str x
  | _, _, .lst h a, n => by simp [noL] at n
  | _, _, .tup h a, n => by
    simp only [noL] at n
    have keep : ∀ b o, I b = some o → (∀ us, o ≠ .lst us) → forget I p b = some o := fun b o e ho => by
      unfold forget
      rw [if_neg]
      · exact e
      · rintro rfl
        rw [hp] at e
        exact ho us (Option.some.inj e).symm
    exact .tup (keep _ _ h fun _ z => by cases z) (dpAll_forget hp a n)
theorem dpAll_forget {I : Hp} {p : Addr} {us : List V} (hp : I p = some (.lst us)) : ∀ {vs : List V} {ds : List PyData}, DpAll K I vs ds → noLs ds = true → DpAll K (forget I p) vs ds
  | _, _, .nil, _ => .nil
  | _, _, .cons h t, n => by
    simp only [noLs, Bool.and_eq_true] at n
    exact .cons (dp_forget hp h n.1) (dpAll_forget hp t n.2)
end
end
section
variable {X : Cx} {A : List C} {pos p p2 : Pos} {x y : Str}
/-- f(xs), xs an own list that is read alone; the result is a new list without lists in it -/
theorem ev_callOwn {k : Nat} {ps : List Str} {R : List PyData → Res → Prop} {ds es : List PyData} (j : Nat) (G : Fn X.prog X.w X.K X.mg X.base k x ps R) (hr : Room k X.A) (hg : Gl X x) (hN : X.N[j]? = some y) (hA : A[j]? = some (.own (.lst ds))) (hv : Vis X.env.scope y) (h : R [.list ds] (.ok (.own (.lst es)))) (hn : noLs es = true)
    (hd : (y == ("__debug__" : Str)) = false) (hcd : (y == ("__classdict__" : Str)) = false) (hdb : (x == ("__debug__" : Str)) = false)
    (he : starEach (.Name y p2 :: []) X.env = (false, eval (.Name y p2) X.env) :: starEach [] X.env := by rfl) (hpl : (backTo pos (starEach [] X.env)).any (·.1) = false := by rfl) : Ev X A (.Call (.Name x p) [.Name y p2] [] pos) (.own (.lst es)) := fun I0 H0 σ I H rl Q q => by
  obtain ⟨f, fd, F, hm, hk, hb, _⟩ := G.ex
  obtain ⟨a, o, e1, n0, n, ho, hob⟩ := rl.cell j _ hA
  obtain ⟨vs, rfl, ha⟩ := obAt_lst hob
  have s1 : Same I (upd I a (.lst vs)) := fun b u e => by rw [upd_ne (ne_of_none e n)]; exact e
  refine wx_of (pe_call F hr hg hm hk hb .nil passL (pa_cons (pe_var hN hv hd hcd) pa_nil he) hdb he hpl) ⟨.ref a, e1, ?_⟩
  show Spec X.K X.mg R ([.ref a] ++ []) H Q E0
  refine ⟨upd I a (.lst vs), [.list ds], .ok (.own (.lst es)), fun b u e => ?_, .cons (.lst (.inl (.inl upd_same)) (dpAll_mono s1 ha)) .nil, h, fun v I2 H2 g hv2 => ?_⟩
  · by_cases hb2 : b = a
    · subst hb2; rw [upd_same] at e; rw [← e]; exact ho
    · rw [upd_ne hb2] at e; exact rl.ih b u e
  · have h2 : I2 a = some (.lst vs) := g.ii a _ upd_same
    obtain ⟨c, o2, rfl, m0, m1, m2, hob2⟩ := hv2
    obtain ⟨us, rfl, hus⟩ := obAt_lst hob2
    have fne : ∀ b, b ≠ a → forget I2 a b = I2 b := fun b hb2 => if_neg hb2
    have fa : forget I2 a a = none := if_pos rfl
    refine q _ (forget I2 a) H2 ⟨fun b u e => ?_, g.hh, fun b u e => ?_, fun b u e1 e2 => ?_⟩ ⟨c, _, rfl, m0, ?_, m2, dpAll_forget h2 hus hn⟩
    · have hb2 : b ≠ a := ne_of_none e n
      rw [fne b hb2]
      exact g.ii b u (by rw [upd_ne hb2]; exact e)
    · by_cases hb2 : b = a
      · subst hb2; rw [fa] at e; cases e
      · rw [fne b hb2] at e; exact g.ih b u e
    · by_cases hb2 : b = a
      · subst hb2; exact fa
      · rw [fne b hb2]
        exact g.nw b u e1 (by rw [upd_ne hb2]; exact e2)
    · by_cases hb2 : c = a
      · subst hb2; exact fa
      · rw [fne c hb2]; exact m1
end
end LR

set_option Elab.async false
set_option linter.all false
set_option maxRecDepth 100000
set_option maxHeartbeats 4000000
/-! The layer LR, part u: sum of a tuple. -/
namespace LR
open PySem PySem.Spec PyProof.Rows L2
section
variable {P : Program} {w : World} {K : PySem.W.Frag} {mg : Str → Option Value} {base : Heap} {N : List Str} {sc : Scope} {k : Nat} {X : Cx} {A : List C} {pos p : Pos} {x : Str}
theorem sumT_raw {A : Around} {E : Value → Shared → Prop} {s : Shared} {t : Addr} {its : List Value} {ns : List Int} {Q : Value → Shared → Prop} (hh : A.handled = none) (hl : s.heap.IsTuple t its.toArray) (hi : IntsAre its ns)
    (h : ∀ h' tk t', (∀ b o, s.heap.get? b = some o → h'.get? b = some o) → Q (.int ns.sum t') { s with heap := h', toks := tk }) : wpAny (model P w) A (call (.builtin "sum") [.ref t]) Q E s := by
  obtain ⟨xs, e⟩ := hi.allInts.items
  have hn : numsOf (intItems xs).toList = ns := by rw [← e]; exact hi.numsOf
  rw [nums_intItems] at hn
  rw [e] at hl
  refine PySem.W.ktm_sumG hh hl fun h' tk t' hk => ?_
  have := h h' tk t' hk
  rw [preSum_eq, List.take_of_length_le (by simp), hn]; exact this
def rSumT (K : PySem.W.Frag) : List V → Hp → VK → Prop := fun vs H Q => ∃ (a : Addr) (ns : List Int), vs = [V.ref a] ∧ SqT K H a (ns.map V.int) ∧ Q (.int ns.sum) H
theorem cr_sumT (hc : X.calm = true) : CallR X (.builtin "sum") (rSumT X.K) := by
  intro pins s σ H vs us Q I r h
  obtain ⟨a, ns, rfl, hs, q⟩ := h
  obtain ⟨its, rv, hl, _⟩ := I.tuple hs
  rw [Vals.ref1 r]
  exact sumT_raw (I.ok.hd hc) hl rv.ints fun h' tk t' hk => ⟨.int _, H, I.kept hk, ⟨_, rfl⟩, q⟩
/-- sum(xs) of a tuple of whole numbers -/
theorem sumTF (hX : XF P w K mg base N sc k X) {e : Expr} {ns : List Int} (hg : GlS sc "sum") (hm : mg "sum" = none) (h : Ev X A e (.dat (.tuple (ns.map .int)))) (hb : bootBuiltins "sum" = some (.builtin "sum") := by decide +kernel) (hs : starEach (e :: []) X.env = (false, eval e X.env) :: starEach [] X.env := by rfl) :
    Ev X A (.Call (.Name "sum" p) [e] [] pos) (.dat (.int ns.sum)) := fun I0 H0 σ I H rl Q q =>
  wx_of (pe_callB (cr_sumT hX.calm) (hX.gl hg) (by rw [hX.eM]; exact hm) hb (pa_cons wx_pe pa_nil hs) (by decide) (by decide) hs rfl) (h I0 H0 σ I H rl _ fun v I1 H1 g hv => by
    obtain ⟨a, vs, rfl, hk, ha⟩ := dp_tup (show Dp X.K I1 v (.tuple _) from hv)
    exact ⟨a, ns, rfl, by rw [← ints_of ha]; exact same_t g.ih hk, q _ I1 H1 g (Dp.int _)⟩)
end
end LR

set_option Elab.async false
set_option linter.all false
set_option maxRecDepth 100000
set_option maxHeartbeats 4000000
/-! The layer LR, part v: the def's own dicts: {}, d[k] = v, k in d, d[k], sorted(d). -/
namespace LR
open PySem PySem.Spec PyProof.Rows L2
section
variable {κ β : Type} [DecidableEq κ]
/-- in its place, or at the end -/
def putE (es : List (κ × β)) (k : κ) (d : β) : List (κ × β) := if (es.any fun e => decide (e.1 = k)) = true then es.map (fun e => if e.1 = k then (e.1, d) else e) else es ++ [(k, d)]
def valE (es : List (κ × β)) (k : κ) : Option β := (es.find? fun e => decide (e.1 = k)).map (·.2)
theorem any_keys {γ : Type} : ∀ {es : List (κ × β)} {fs : List (κ × γ)} (k : κ), es.map (·.1) = fs.map (·.1) → (es.any fun e => decide (e.1 = k)) = fs.any fun e => decide (e.1 = k)
  | [], [], _, _ => rfl
  | [], _ :: _, _, h => by simp at h
  | _ :: _, [], _, h => by simp at h
  | a :: es, b :: fs, k, h => by
    simp only [List.map_cons, List.cons.injEq] at h
    rw [List.any_cons, List.any_cons, any_keys k h.2, h.1]
theorem keys_repl (es : List (κ × β)) (k : κ) (d : β) : (es.map fun e => if e.1 = k then (e.1, d) else e).map (·.1) = es.map (·.1) := by
  rw [List.map_map]
  refine List.map_congr_left fun e _ => ?_
  show (if e.1 = k then (e.1, d) else e).1 = e.1
  split <;> rfl
theorem keys_putE (es : List (κ × β)) (k : κ) (d : β) : (putE es k d).map (·.1) = if (es.any fun e => decide (e.1 = k)) = true then es.map (·.1) else es.map (·.1) ++ [k] := by
  unfold putE
  split
  · exact keys_repl es k d
  · rw [List.map_append]; rfl
theorem putK_putE {kvs : List (κ × V)} {k : κ} {v : V} : putK kvs k v = putE kvs k v := rfl
theorem valV_valE {kvs : List (κ × V)} {k : κ} : valV kvs k = valE kvs k := rfl
theorem len_putE (es : List (κ × β)) (k : κ) (d : β) : (putE es k d).length ≤ es.length + 1 := by
  unfold putE
  split
  · rw [List.length_map]; omega
  · rw [List.length_append]; exact Nat.le_refl _
variable {K : PySem.W.Frag} {I : Hp}
theorem dp_repl {v : V} {d : PyData} (k : κ) (hv : Dp K I v d) : ∀ {kvs : List (κ × V)} {es : List (κ × PyData)}, kvs.map (·.1) = es.map (·.1) → DpAll K I (kvs.map (·.2)) (es.map (·.2)) →
    DpAll K I ((kvs.map fun e => if e.1 = k then (e.1, v) else e).map (·.2)) ((es.map fun e => if e.1 = k then (e.1, d) else e).map (·.2))
  | [], [], _, _ => .nil
  | [], _ :: _, h, _ => by simp at h
  | _ :: _, [], h, _ => by simp at h
  | a :: kvs, b :: es, h, hd => by
    simp only [List.map_cons, List.cons.injEq] at h
    rw [List.map_cons, List.map_cons] at hd
    cases hd with
    | cons h1 h2 =>
      simp only [List.map_cons]
      refine .cons ?_ (dp_repl k hv h.2 h2)
      rw [h.1]
      by_cases e : b.1 = k
      · rw [if_pos e, if_pos e]; exact hv
      · rw [if_neg e, if_neg e]; exact h1
theorem dp_put {v : V} {d : PyData} (k : κ) (hv : Dp K I v d) {kvs : List (κ × V)} {es : List (κ × PyData)} (hk : kvs.map (·.1) = es.map (·.1)) (hd : DpAll K I (kvs.map (·.2)) (es.map (·.2))) :
    (putE kvs k v).map (·.1) = (putE es k d).map (·.1) ∧ DpAll K I ((putE kvs k v).map (·.2)) ((putE es k d).map (·.2)) := by
  refine ⟨by rw [keys_putE, keys_putE, any_keys k hk, hk], ?_⟩
  unfold putE
  rw [any_keys k hk]
  split
  · exact dp_repl k hv hk hd
  · rw [List.map_append, List.map_append]
    exact dpAll_append hd (.cons hv .nil)
theorem dp_val (k : κ) : ∀ {kvs : List (κ × V)} {es : List (κ × PyData)}, kvs.map (·.1) = es.map (·.1) → DpAll K I (kvs.map (·.2)) (es.map (·.2)) → ∀ {d : PyData}, valE es k = some d → ∃ v, valE kvs k = some v ∧ Dp K I v d
  | [], [], _, _, d, h => by simp [valE] at h
  | [], _ :: _, h, _, _, _ => by simp at h
  | _ :: _, [], h, _, _, _ => by simp at h
  | a :: kvs, b :: es, h, hd, d, hv => by
    simp only [List.map_cons, List.cons.injEq] at h
    rw [List.map_cons, List.map_cons] at hd
    cases hd with
    | cons h1 h2 =>
      unfold valE at hv ⊢
      rw [List.find?_cons] at hv ⊢
      rw [h.1]
      by_cases e : b.1 = k
      · rw [decide_eq_true e] at hv ⊢
        cases hv
        exact ⟨_, rfl, h1⟩
      · rw [decide_eq_false e] at hv ⊢
        exact dp_val k h.2 h2 hv
theorem some_keys {γ : Type} (k : κ) : ∀ {es : List (κ × β)} {fs : List (κ × γ)}, es.map (·.1) = fs.map (·.1) → (valE es k).isSome = (valE fs k).isSome
  | [], [], _ => rfl
  | [], _ :: _, h => by simp at h
  | _ :: _, [], h => by simp at h
  | a :: es, b :: fs, h => by
    simp only [List.map_cons, List.cons.injEq] at h
    unfold valE
    rw [List.find?_cons, List.find?_cons, h.1]
    by_cases e : b.1 = k
    · rw [decide_eq_true e]; rfl
    · rw [decide_eq_false e]; exact some_keys k h.2
theorem val_none {es : List (κ × β)} {k : κ} (h : k ∉ es.map (·.1)) : valE es k = none := by
  unfold valE
  rw [List.find?_eq_none.mpr]
  · rfl
  · intro e he z
    exact h (List.mem_map.mpr ⟨e, he, of_decide_eq_true z⟩)
theorem val_some_iff (es : List (κ × β)) (k : κ) : (valE es k).isSome = decide (k ∈ es.map (·.1)) := by
  by_cases h : k ∈ es.map (·.1)
  · rw [decide_eq_true h]
    obtain ⟨e, he, e1⟩ := List.mem_map.mp h
    unfold valE
    rw [Option.isSome_map, List.find?_isSome]
    exact ⟨e, he, decide_eq_true e1⟩
  · rw [decide_eq_false h, val_none h]; rfl
end
theorem obAt_dct {K : PySem.W.Frag} {I : Hp} {o : HO} {es : List (Key × PyData)} (h : ObAt K I o (.dct es)) : ∃ kvs : List (Key × V), o = .dK kvs ∧ kvs.map (·.1) = es.map (·.1) ∧ DpAll K I (kvs.map (·.2)) (es.map (·.2)) := by
  cases o with
  | dK kvs => exact ⟨kvs, rfl, h⟩
  | _ => exact h.elim
theorem obAt_dtt {K : PySem.W.Frag} {I : Hp} {o : HO} {es : List (List Key × PyData)} (h : ObAt K I o (.dtt es)) : ∃ kvs : List (List Key × V), o = .dT kvs ∧ kvs.map (·.1) = es.map (·.1) ∧ DpAll K I (kvs.map (·.2)) (es.map (·.2)) := by
  cases o with
  | dT kvs => exact ⟨kvs, rfl, h⟩
  | _ => exact h.elim
abbrev kI (xs : List Int) : List Key := xs.map Sum.inl
theorem kV_kI (xs : List Int) : (kI xs).map kV = xs.map V.int := by rw [List.map_map]; rfl
section
variable {P : Program} {w : World} {K : PySem.W.Frag} {mg : Str → Option Value} {base : Heap} {N : List Str} {sc : Scope} {k : Nat}
variable {X : Cx} {e a b : Expr} {es : List Expr} {A : List C} {pos p p2 : Pos} {x : Str}
/-- {} -/
theorem ev_dct : Ev X A (.Dict [] [] pos) (.own (.dct [])) := fun I0 H0 σ I H rl Q q =>
  wx_of pe_dnewK fun p hp => by
    have g2 := Grow.newH (o := .dK []) rl.ih hp
    exact q _ _ _ g2 ⟨p, .dK [], rfl, hp, rl.ih.free hp, upd_same, rfl, .nil⟩
theorem ev_dtt : Ev X A (.Dict [] [] pos) (.own (.dtt [])) := fun I0 H0 σ I H rl Q q =>
  wx_of pe_dnewT fun p hp => by
    have g2 := Grow.newH (o := .dT []) rl.ih hp
    exact q _ _ _ g2 ⟨p, .dT [], rfl, hp, rl.ih.free hp, upd_same, rfl, .nil⟩
variable (hX : XF P w K mg base N sc k X)
include hX
/-- d[k] = e, k a whole number -/
theorem dputF (j : Nat) {es : List (Key × PyData)} {d : PyData} {i : Int} {ix : Expr} {p3 p4 : Pos} (hN : N[j]? = some x) (hA : A[j]? = some (.own (.dct es))) (hv : Vis sc x) (he : Ev X A e (.dat d)) (hi : Ev X A ix (.dat (.int i))) (hz : es.length < sizeLine) (hd : (x == ("__debug__" : Str)) = false) (hcd : (x == ("__classdict__" : Str)) = false)
    (hs : swapsWith e (some (.Subscript (.Name x p3) ix p4)) pos.line X.env = pure false := by rfl) : S1 X A (.Assign [.Subscript (.Name x p3) ix p4] e pos) (.nx (A.set j (.own (.dct (putE es (.inl i) d))))) := fun I0 H0 σ I H rl D f => by
  obtain ⟨q, o, e1, n0, n, ho, hb⟩ := rl.cell j _ hA
  obtain ⟨kvs, rfl, hk1, hv1⟩ := obAt_dct hb
  refine ws_of (ps_dput (by have := hX.room.un; omega) (pe_var (by rw [hX.eN]; exact hN) (hX.vis hv) hd hcd) wx_pe wx_pe hs) ?_
  refine he I0 H0 σ I H rl _ fun v I1 H1 g1 hd1 => ⟨.ref q, e1, ?_⟩
  refine hi I0 H0 σ I1 H1 (rl.grow g1) _ fun u I2 H2 g2 hu => ?_
  have g := g1.trans g2
  have n1 := g.nw q _ ho n
  refine ⟨q, _, rfl, .inl ⟨kvs, .inl i, g.hh _ _ ho, dp_int hu, ?_, rfl⟩, ?_⟩
  · have := congrArg List.length hk1
    rw [List.length_map, List.length_map] at this
    omega
  · exact f σ I2 _ g.ii (rel_mut (rl.grow g) hA e1 n0 n1 (dp_put (K := X.K) (I := I2) _ (dp_mono g2.ii hd1) hk1 (dpAll_mono g.ii hv1)))
/-- d[k] = e, k a tuple of whole numbers -/
theorem dputTF (j : Nat) {es : List (List Key × PyData)} {d : PyData} {ks : List Int} {ix : Expr} {p3 p4 : Pos} (hN : N[j]? = some x) (hA : A[j]? = some (.own (.dtt es))) (hv : Vis sc x) (he : Ev X A e (.dat d)) (hi : Ev X A ix (.dat (tI ks))) (hz : es.length < sizeLine) (hd : (x == ("__debug__" : Str)) = false) (hcd : (x == ("__classdict__" : Str)) = false)
    (hs : swapsWith e (some (.Subscript (.Name x p3) ix p4)) pos.line X.env = pure false := by rfl) : S1 X A (.Assign [.Subscript (.Name x p3) ix p4] e pos) (.nx (A.set j (.own (.dtt (putE es (kI ks) d))))) := fun I0 H0 σ I H rl D f => by
  obtain ⟨q, o, e1, n0, n, ho, hb⟩ := rl.cell j _ hA
  obtain ⟨kvs, rfl, hk1, hv1⟩ := obAt_dtt hb
  refine ws_of (ps_dput (by have := hX.room.un; omega) (pe_var (by rw [hX.eN]; exact hN) (hX.vis hv) hd hcd) wx_pe wx_pe hs) ?_
  refine he I0 H0 σ I H rl _ fun v I1 H1 g1 hd1 => ⟨.ref q, e1, ?_⟩
  refine hi I0 H0 σ I1 H1 (rl.grow g1) _ fun u I2 H2 g2 hu => ?_
  have g := g1.trans g2
  have n1 := g.nw q _ ho n
  obtain ⟨r, us, rfl, hr, ha⟩ := dp_tupH (show Dp X.K I2 u (.tuple (ks.map .int)) from hu)
  rw [ints_of ha] at hr
  refine ⟨q, _, rfl, .inr ⟨kvs, kI ks, r, g.hh _ _ ho, rfl, by rw [kV_kI]; exact g2.ih _ _ hr, ?_, rfl⟩, ?_⟩
  · have := congrArg List.length hk1
    rw [List.length_map, List.length_map] at this
    omega
  · exact f σ I2 _ g.ii (rel_mut (rl.grow g) hA e1 n0 n1 (dp_put (K := X.K) (I := I2) _ (dp_mono g2.ii hd1) hk1 (dpAll_mono g.ii hv1)))
/-- k in d -/
theorem inTF (j : Nat) {es : List (List Key × PyData)} {ks : List Int} {ix : Expr} {p3 : Pos} (hN : N[j]? = some x) (hA : A[j]? = some (.own (.dtt es))) (hv : Vis sc x) (hi : Ev X A ix (.dat (tI ks))) (hd : (x == ("__debug__" : Str)) = false) (hcd : (x == ("__classdict__" : Str)) = false) :
    Ev X A (.Compare ix [.In] [.Name x p3] pos) (.dat (.bool ((valE es (kI ks)).isSome))) := fun I0 H0 σ I H rl Q q' => by
  obtain ⟨q, o, e1, n0, n, ho, hb⟩ := rl.cell j _ hA
  obtain ⟨kvs, rfl, hk1, hv1⟩ := obAt_dtt hb
  refine wx_of (pe_cmp (pc_din (by have := hX.room.un; omega) wx_pe (pe_var (by rw [hX.eN]; exact hN) (hX.vis hv) hd hcd))) ?_
  refine hi I0 H0 σ I H rl _ fun u I2 H2 g hu => ⟨.ref q, e1, ?_⟩
  obtain ⟨r, us, rfl, hr, ha⟩ := dp_tupH (show Dp X.K I2 u (.tuple (ks.map .int)) from hu)
  rw [ints_of ha] at hr
  refine ⟨q, _, rfl, .inr ⟨kvs, kI ks, r, .inl (g.hh _ _ ho), rfl, by rw [kV_kI]; exact g.ih _ _ hr, rfl⟩, q' _ I2 H2 g ?_⟩
  rw [valV_valE, some_keys (kI ks) hk1]
  exact Dp.bl _
theorem etInTF (j : Nat) {es : List (List Key × PyData)} {ks : List Int} {ix : Expr} {p3 : Pos} (hN : N[j]? = some x) (hA : A[j]? = some (.own (.dtt es))) (hv : Vis sc x) (hi : Ev X A ix (.dat (tI ks))) (hd : (x == ("__debug__" : Str)) = false) (hcd : (x == ("__classdict__" : Str)) = false) :
    Et X A (.Compare ix [.In] [.Name x p3] pos) ((valE es (kI ks)).isSome) := fun I0 H0 σ I H rl Q q' => by
  obtain ⟨q, o, e1, n0, n, ho, hb⟩ := rl.cell j _ hA
  obtain ⟨kvs, rfl, hk1, hv1⟩ := obAt_dtt hb
  refine wt_of (pt_cmp (pc_din (by have := hX.room.un; omega) wx_pe (pe_var (by rw [hX.eN]; exact hN) (hX.vis hv) hd hcd))) ?_
  refine hi I0 H0 σ I H rl _ fun u I2 H2 g hu => ⟨.ref q, e1, ?_⟩
  obtain ⟨r, us, rfl, hr, ha⟩ := dp_tupH (show Dp X.K I2 u (.tuple (ks.map .int)) from hu)
  rw [ints_of ha] at hr
  refine ⟨q, _, rfl, .inr ⟨kvs, kI ks, r, .inl (g.hh _ _ ho), rfl, by rw [kV_kI]; exact g.ih _ _ hr, rfl⟩, _, rfl, ?_⟩
  rw [valV_valE, some_keys (kI ks) hk1]
  exact q' I2 H2 g
/-- d[k], there -/
theorem dgetTF (j : Nat) {es : List (List Key × PyData)} {ks : List Int} {d : PyData} {ix : Expr} {p3 : Pos} (hN : N[j]? = some x) (hA : A[j]? = some (.own (.dtt es))) (hv : Vis sc x) (hi : Ev X A ix (.dat (tI ks))) (hval : valE es (kI ks) = some d) (hd : (x == ("__debug__" : Str)) = false) (hcd : (x == ("__classdict__" : Str)) = false) (hns : NoSl ix) :
    Ev X A (.Subscript (.Name x p3) ix pos) (.dat d) := fun I0 H0 σ I H rl Q q' => by
  obtain ⟨q, o, e1, n0, n, ho, hb⟩ := rl.cell j _ hA
  obtain ⟨kvs, rfl, hk1, hv1⟩ := obAt_dtt hb
  refine wx_of (pe_dget (by have := hX.room.un; omega) (pe_var (by rw [hX.eN]; exact hN) (hX.vis hv) hd hcd) wx_pe hns) ?_
  refine ⟨.ref q, e1, ?_⟩
  refine hi I0 H0 σ I H rl _ fun u I2 H2 g hu => ?_
  obtain ⟨r, us, rfl, hr, ha⟩ := dp_tupH (show Dp X.K I2 u (.tuple (ks.map .int)) from hu)
  rw [ints_of ha] at hr
  obtain ⟨v, v1, v2⟩ := dp_val (kI ks) hk1 hv1 hval
  exact ⟨q, v, rfl, .inr ⟨kvs, kI ks, r, .inl (g.hh _ _ ho), rfl, by rw [kV_kI]; exact g.ih _ _ hr, v1.symm⟩, q' _ I2 H2 g (dp_mono g.ii v2)⟩
/-- sorted(d), the keys whole numbers -/
theorem sortedDF (j : Nat) {es : List (Key × PyData)} {ks : List Int} {p3 : Pos} (hg : GlS sc "sorted") (hm : mg "sorted" = none) (hN : N[j]? = some x) (hA : A[j]? = some (.own (.dct es))) (hv : Vis sc x) (hk : es.map (·.1) = ks.map Sum.inl) (hz : ks.length < 64) (hd : (x == ("__debug__" : Str)) = false) (hcd : (x == ("__classdict__" : Str)) = false)
    (hs : starEach (.Name x p3 :: []) X.env = (false, eval (.Name x p3) X.env) :: starEach [] X.env := by rfl) (hb : bootBuiltins "sorted" = some (.builtin "sorted") := by decide +kernel) :
    Ev X A (.Call (.Name "sorted" p) [.Name x p3] [] pos) (.own (.lst ((ks.mergeSort fun a b => decide (a ≤ b)).map .int))) := fun I0 H0 σ I H rl Q q' => by
  obtain ⟨q, o, e1, n0, n, ho, hb'⟩ := rl.cell j _ hA
  obtain ⟨kvs, rfl, hk1, hv1⟩ := obAt_dct hb'
  refine wx_of (pe_callB (call_sortedDI hX.calm) (hX.gl hg) (by rw [hX.eM]; exact hm) hb (pa_cons (pe_var (by rw [hX.eN]; exact hN) (hX.vis hv) hd hcd) pa_nil hs) (by decide) (by decide) hs rfl) ?_
  refine ⟨.ref q, e1, q, kvs, ks, rfl, .inl ho, hk1.trans hk, hz, fun ys p' hp' hs' hn' => ?_⟩
  have e : ys = ks.mergeSort fun a b => decide (a ≤ b) := by
    refine List.Perm.eq_of_pairwise (le := fun a b : Int => a ≤ b) (fun a b _ _ h1 h2 => Int.le_antisymm h1 h2) hs' ?_ (hp'.trans (List.mergeSort_perm ks _).symm)
    have := List.pairwise_mergeSort (le := fun a b : Int => decide (a ≤ b)) (fun a b c h1 h2 => decide_eq_true (Int.le_trans (of_decide_eq_true h1) (of_decide_eq_true h2))) (fun a b => by
      simp only [Bool.or_eq_true, decide_eq_true_eq]; omega) ks
    exact this.imp fun h => of_decide_eq_true h
  subst e
  have g2 := Grow.newH (o := .lst ((ks.mergeSort fun a b => decide (a ≤ b)).map V.int)) rl.ih hn'
  exact q' _ _ _ g2 ⟨p', _, rfl, hn', rl.ih.free hn', upd_same, dpAll_ints _⟩
end
end LR

set_option Elab.async false
set_option linter.all false
set_option maxRecDepth 100000
set_option maxHeartbeats 4000000
/-! The layer LR, part w: xs.index(d) of encoded data; whole numbers and texts of the module. -/
namespace LR
open PySem PySem.Spec PyProof.Rows L2
/-- the module's name x is a whole number, a text -/
def MI (mg : Str → Option Value) (x : Str) (i : Int) : Prop := ∃ t, mg x = some (.int i t)
def MT (mg : Str → Option Value) (x : Str) (z : Str) : Prop := ∃ t, mg x = some (.str z t)
section
variable {P : Program} {w : World} {K : PySem.W.Frag} {mg : Str → Option Value} {base : Heap} {N : List Str} {sc : Scope} {k : Nat}
variable {X : Cx} {e a b : Expr} {es : List Expr} {A : List C} {pos p p2 p3 : Pos} {x : Str}
variable (hX : XF P w K mg base N sc k X)
include hX
theorem gIntF {i : Int} (hg : GlS sc x) (hm : MI mg x i) (hd : (x == ("__debug__" : Str)) = false) : Ev X A (.Name x pos) (.dat (.int i)) := fun I0 H0 σ I H rl Q q => by
  obtain ⟨t, ht⟩ := hm
  exact wx_of (pe_glob (X := X) (v := .int i) (hX.gl hg) (by rw [hX.eM]; exact ht) ⟨t, rfl⟩ hd) (q _ I H (Grow.refl rl.ih) (Dp.int i))
theorem gStrF {z : Str} (hg : GlS sc x) (hm : MT mg x z) (hd : (x == ("__debug__" : Str)) = false) : Ev X A (.Name x pos) (.dat (.str z)) := fun I0 H0 σ I H rl Q q => by
  obtain ⟨t, ht⟩ := hm
  exact wx_of (pe_glob (X := X) (v := .str z) (hX.gl hg) (by rw [hX.eM]; exact ht) ⟨t, rfl⟩ hd) (q _ I H (Grow.refl rl.ih) (Dp.str z))
/-- xs.index(d), d in xs -/
theorem indexF {α : Type} [DecidableEq α] {enc : α → PyData} {dd : Nat} {e e2 : Expr} {y : α} {xs : List α} {j : Nat} (E : Enc enc dd) (hd : dd ≤ 62) (h1 : Ev X A e (.dat (.list (xs.map enc)))) (h2 : Ev X A e2 (.dat (enc y))) (hj : j < xs.length) (hy : xs[j] = y) (hl : ∀ (i : Nat) (h : i < xs.length), i < j → xs[i] ≠ y)
    (hbase : attributeBase e "index" X.env (eval e X.env) = eval e X.env := by rfl) (hs : starEach (e2 :: []) X.env = (false, eval e2 X.env) :: starEach [] X.env := by rfl)
    (hpl : ((backTo p3 (starEach (e2 :: []) X.env)).all (fun x => !x.1) && (backToKw p3 (keywordEach [] X.env)).all (fun x => x.1.isSome) && decide (([e2] : List Expr).length + ([] : List Keyword).length + (if ([] : List Keyword).isEmpty then 0 else 1) < 30)) = true := by rfl) (hline : (p2.endLine == p3.line) = true := by rfl) :
    Ev X A (.Call (.Attribute e "index" p2) [e2] [] p3) (.dat (.int (j : Nat))) := fun I0 H0 σ I H rl Q q =>
  wx_of (pe_bm PySem.F.plainAttrs_list PySem.F.slot_list_index PySem.F.type_list_index (mt_indexD (by have := hX.room.un; omega)) wx_pe (pa_cons wx_pe pa_nil hs) (hbase := hbase) (hfew := hpl) (hline := hline) (hs := hs) (hplain := rfl)) (h1 I0 H0 σ I H rl _ fun u I1 H1 g1 hu => by
    obtain ⟨a, vs, rfl, hk, ha⟩ := dp_lst (show Dp X.K I1 u (.list _) from hu)
    refine ⟨.inl ⟨rfl, _, same_l g1.ih hk⟩, h2 I0 H0 σ I1 H1 (rl.grow g1) _ fun v I2 H2 g2 hv => ?_⟩
    refine ⟨a, v, enc y, xs.map enc, j, enc xs[j], rfl, rfl, (Dp.lst (same_l (g2.hh) (same_l g1.ih hk)) (dpAll_mono g2.ih (dpAll_mono g2.ii ha))).kit, (dp_mono g2.ih hv).kit, E.lst.shaped (by omega) xs, E.shaped (by omega) y, ?_, ?_, ?_, q _ I2 H2 (g1.trans g2) (.int _)⟩
    · rw [List.getElem?_map, List.getElem?_eq_getElem hj]; rfl
    · rw [E.eqv, hy]; exact decide_eq_true rfl
    · intro m z' hm hz
      have hm2 : m < xs.length := by omega
      rw [List.getElem?_map, List.getElem?_eq_getElem hm2] at hz
      cases hz
      rw [E.eqv]
      exact decide_eq_false (hl m hm2 hm))
end
end LR

set_option Elab.async false
set_option linter.all false
set_option maxRecDepth 100000
set_option maxHeartbeats 4000000
/-! The layer LR, part x: list(range(n)); a result that is a new tuple with a new list behind. -/
namespace LR
open PySem PySem.Spec PyProof.Rows L2
section
variable {P : Program} {w : World} {K : PySem.W.Frag} {mg : Str → Option Value} {base : Heap} {N : List Str} {sc : Scope} {k : Nat}
variable {X : Cx} {e a b : Expr} {es : List Expr} {A : List C} {pos p p2 p3 p4 : Pos} {x : Str}
theorem rg0 (n : Int) : rgV 0 n = ((List.range n.toNat).map fun i : Nat => (i : Int)).map V.int := by
  unfold rgV
  rw [List.map_map, Int.sub_zero]
  refine List.map_congr_left fun i _ => ?_
  show V.int (0 + (i : Int)) = V.int (i : Int)
  rw [Int.zero_add]
/-- a new tuple, its last item the def's new list -/
theorem ev_tupO3 {e1 e2 e3 : Expr} {d1 d2 : PyData} {es : List PyData} {kk} (h1 : Ev X A e1 (.dat d1)) (h2 : Ev X A e2 (.dat d2)) (h3 : Ev X A e3 (.own (.lst es)))
    (n1 : starEach (e1 :: [e2, e3]) X.env = (false, eval e1 X.env) :: starEach [e2, e3] X.env := by rfl) (n2 : starEach (e2 :: [e3]) X.env = (false, eval e2 X.env) :: starEach [e3] X.env := by rfl) (n3 : starEach (e3 :: []) X.env = (false, eval e3 X.env) :: starEach [] X.env := by rfl) :
    Ev X A (.Tuple [e1, e2, e3] kk pos) (.tpo [d1, d2] es) := fun I0 H0 σ I H rl Q q' =>
  wx_of (pe_tup (pa_cons wx_pe (pa_cons wx_pe (pa_cons wx_pe pa_nil n3) n2) n1)) (h1 I0 H0 σ I H rl _ fun v1 I1 H1 g1 hv1 => h2 I0 H0 σ I1 H1 (rl.grow g1) _ fun v2 I2 H2 g2 hv2 => h3 I0 H0 σ I2 H2 ((rl.grow g1).grow g2) _ fun v3 I3 H3 g3 hv3 => by
    obtain ⟨q, o, rfl, m, m', hq, hb⟩ := hv3
    obtain ⟨us, rfl, ha⟩ := obAt_lst hb
    have g := (g1.trans g2).trans g3
    have mh : H q = none := (g1.hh.trans g2.hh).free m
    refine ⟨by rw [sizeLine_eq]; show 3 ≤ 16777216; decide, fun p hp => ?_⟩
    have g4 := Grow.newH (o := .tup [v1, v2, .ref q]) g.ih hp
    have hpq : q ≠ p := ne_of_none hq hp
    exact q' _ _ _ (g.trans g4) ⟨p, q, [v1, v2], us, rfl, g.hh.free hp, g.ih.free hp, upd_same, .cons (dp_mono (g2.trans g3).ii hv1) (.cons (dp_mono g3.ii hv2) .nil), mh, m', by rw [upd_ne hpq]; exact hq, ha⟩)
/-- .. as data -/
theorem ev_soft {ds es : List PyData} (h : Ev X A e (.tpo ds es)) : Ev X A e (.dat (.tuple (ds ++ [.list es]))) := fun I0 H0 σ I H rl Q q' =>
  h I0 H0 σ I H rl Q fun v I1 H1 g hv => by
    obtain ⟨p, q, vs, us, rfl, n1, n2, h1, a1, m1, m2, h2, a2⟩ := hv
    have g2 := g.know (o := .lst us) m1 m2 h2
    have hpq : p ≠ q := fun z => by
      subst z
      rw [h1] at h2
      cases h2
    have n2' : upd I1 q (.lst us) p = none := by rw [upd_ne hpq]; exact n2
    have g3 := g2.know (o := .tup (vs ++ [.ref q])) n1 n2' h1
    have s2 : Same I1 (upd I1 q (.lst us)) := fun b u z => by rw [upd_ne (ne_of_none z m2)]; exact z
    have s3 : Same (upd I1 q (.lst us)) (upd (upd I1 q (.lst us)) p (.tup (vs ++ [.ref q]))) := fun b u z => by rw [upd_ne (ne_of_none z n2')]; exact z
    exact q' _ _ _ g3 (.tup upd_same (dpAll_append (dpAll_mono (s2.trans s3) a1) (dpAll_one (.lst (.inl (.inl (s3 _ _ upd_same))) (dpAll_mono (s2.trans s3) a2)))))
theorem tg_namesO {K : PySem.W.Frag} {jl : Nat} {q0 : Addr} {o : HO} {b : Ob} {I0 H0 I H : Hp} (n0 : H0 q0 = none) (n1 : I q0 = none) (ho : H q0 = some o) (hb : ObAt K I o b) : ∀ {js : List Nat} {σ : L2.St} {A A' : List C} {ds : List PyData} {vs : List V}, uNames js A ds A' → A'[jl]?.isSome = true → Rel K I0 H0 A σ I H → DpAll K I vs ds →
    (∀ i : Nat, isOwn A[i]? → σ[i]? ≠ some (some (.ref q0))) → ∀ Q : L2.St → Hp → Prop, (∀ σ', Rel K I0 H0 (A'.set jl (.own b)) σ' I H → Q σ' H) → gNames (js ++ [jl]) (vs ++ [.ref q0]) σ H Q
  | [], _, _, _, _, _, ⟨e1, e2⟩, hj, r, hv, far, Q, q => by
    subst e1 e2
    cases hv
    exact ⟨_, _, rfl, rfl, q _ (rel_own (Hs := H) r (lt_of_some hj) n0 n1 ho hb far)⟩
  | j :: js, σ, A, A', ds, vs, ⟨d, rd, e1, hj, u⟩, hjl, r, hv, far, Q, q => by
    subst e1
    cases hv with
    | cons h1 h2 =>
      refine ⟨_, _, rfl, tg_namesO n0 n1 ho hb u hjl (rel_set r h1 (lt_of_some hj)) h2 (fun i hi => ?_) Q q⟩
      by_cases ji : j = i
      · subst ji
        rw [List.getElem?_set_self (lt_of_some hj)] at hi
        exact hi.elim
      · rw [List.getElem?_set_ne ji] at hi ⊢
        exact far i hi
def noLC : C → Bool
  | .un => true
  | .dat d => noL d
  | .rf _ => true
  | _ => false
/-- a statement in which an own list is read alone -/
theorem s1_lend (j : Nat) {ds : List PyData} {st : Stmt} {A2 : List C} (hA : A[j]? = some (.own (.lst ds))) (hn : noLs ds = true) (h : ∀ a, S1 X (A.set j (.kn a (.list ds))) st (.nx (A2.set j (.kn a (.list ds))))) (hok : ∀ i c, i ≠ j → A2[i]? = some c → noLC c = true) (hj2 : j < A2.length) :
    S1 X A st (.nx (A2.set j (.own (.lst ds)))) := fun I0 H0 σ I H rl D f => by
  have hj : j < A.length := by
    by_cases hj : j < A.length
    · exact hj
    · rw [List.getElem?_eq_none (by omega)] at hA; cases hA
  obtain ⟨q, o', e1, n0, n, ho, hb⟩ := rl.cell j _ hA
  obtain ⟨vs, rfl, ha⟩ := obAt_lst hb
  have s2 : Same I (upd I q (.lst vs)) := fun b u z => by rw [upd_ne (ne_of_none z n)]; exact z
  refine h q I0 H0 σ (upd I q (.lst vs)) H ⟨rl.gr.know n0 n ho, by rw [List.length_set]; exact rl.len, fun i c hc => ?_, fun i i' r ne o1 o2 hr => ?_⟩ D fun σ' I2 H2 sm r2 => ?_
  · by_cases hi : j = i
    · subst hi
      rw [List.getElem?_set_self hj] at hc
      cases hc
      exact ⟨e1, .lst (.inl (.inl upd_same)) (dpAll_mono s2 ha)⟩
    · rw [List.getElem?_set_ne hi] at hc
      have z := rl.cell i c hc
      cases c with
      | un => trivial
      | rf a => exact z
      | tpo ds es => trivial
      | kn a d => exact ⟨z.1, dp_mono s2 z.2⟩
      | dat d => obtain ⟨v, e2, hd⟩ := z; exact ⟨v, e2, dp_mono s2 hd⟩
      | own b =>
        obtain ⟨q2, o2, e2, m0, m, ho2, hb2⟩ := z
        have hne : q2 ≠ q := fun z => by
          subst z
          exact rl.apart j i q2 hi (by rw [hA]; trivial) (by rw [hc]; trivial) e1 e2
        exact ⟨q2, o2, e2, m0, by rw [upd_ne hne]; exact m, ho2, obAt_mono s2 hb2⟩
  · have key : ∀ i : Nat, isOwn (A.set j (.kn q (.list ds)))[i]? → isOwn A[i]? := fun i o => by
      by_cases hi : j = i
      · subst hi; rw [List.getElem?_set_self hj] at o; exact o.elim
      · rw [List.getElem?_set_ne hi] at o; exact o
    exact rl.apart i i' r ne (key i o1) (key i' o2) hr
  · have hq2 : I2 q = some (.lst vs) := sm q _ upd_same
    have fne : ∀ b, b ≠ q → forget I2 q b = I2 b := fun b hb2 => if_neg hb2
    have fa : forget I2 q q = none := if_pos rfl
    refine f σ' (forget I2 q) H2 (fun b u e => ?_) ⟨⟨fun b u e => ?_, r2.gr.hh, fun b u e => ?_, fun b u e1' e2 => ?_⟩, by rw [List.length_set]; have := r2.len; rw [List.length_set] at this; exact this, fun i c hc => ?_, fun i i' r ne o1 o2 hr => ?_⟩
    · have hb2 : b ≠ q := ne_of_none e n
      rw [fne b hb2]
      exact sm b u (by rw [upd_ne hb2]; exact e)
    · have hb2 : b ≠ q := fun z => by
        subst z
        have := rl.gr.ii _ _ e
        rw [n] at this
        cases this
      rw [fne b hb2]
      exact r2.gr.ii b u e
    · by_cases hb2 : b = q
      · subst hb2; rw [fa] at e; cases e
      · rw [fne b hb2] at e; exact r2.gr.ih b u e
    · by_cases hb2 : b = q
      · subst hb2; exact fa
      · rw [fne b hb2]; exact r2.gr.nw b u e1' e2
    · by_cases hi : j = i
      · subst hi
        rw [List.getElem?_set_self hj2] at hc
        cases hc
        have z := r2.cell j (.kn q (.list ds)) (by rw [List.getElem?_set_self hj2])
        exact ⟨q, .lst vs, z.1, n0, fa, r2.gr.ih _ _ hq2, show DpAll X.K (forget I2 q) vs ds from dpAll_forget hq2 (dpAll_mono (s2.trans sm) ha) hn⟩
      · rw [List.getElem?_set_ne hi] at hc
        have z := r2.cell i c (by rw [List.getElem?_set_ne hi]; exact hc)
        have hl := hok i c (fun e => hi e.symm) hc
        cases c with
        | un => trivial
        | rf a => exact z
        | dat d => obtain ⟨v, e2, hd⟩ := z; exact ⟨v, e2, dp_forget hq2 hd hl⟩
        | tpo ds es => cases hl
        | kn a d => cases hl
        | own b => cases hl
    · have key : ∀ i : Nat, isOwn (A2.set j (.own (.lst ds)))[i]? → i = j := fun i o => by
        by_cases hi : j = i
        · exact hi.symm
        · rw [List.getElem?_set_ne hi] at o
          cases hc : A2[i]? with
          | none => rw [hc] at o; exact o.elim
          | some c =>
            rw [hc] at o
            cases c with
            | own b => have := hok i _ (fun e => hi e.symm) hc; cases this
            | un => exact o.elim
            | rf a => exact o.elim
            | dat d => exact o.elim
            | tpo ds es => exact o.elim
            | kn a d => exact o.elim
      exact absurd ((key i o1).trans (key i' o2).symm) ne
variable (hX : XF P w K mg base N sc k X)
include hX
theorem knF (i : Nat) {a : Addr} {d : PyData} (hN : N[i]? = some x) (hA : A[i]? = some (.kn a d)) (hv : Vis sc x) (hd : (x == ("__debug__" : Str)) = false) (hcd : (x == ("__classdict__" : Str)) = false) : Ev X A (.Name x pos) (.dat d) := fun I0 H0 σ I H rl Q q' => by
  obtain ⟨e1, h1⟩ := rl.cell i _ hA
  exact wx_of (pe_var (by rw [hX.eN]; exact hN) (hX.vis hv) hd hcd) ⟨.ref a, e1, q' _ I H (.refl rl.ih) h1⟩
theorem listRgF {n : Int} (hgl : GlS sc "list") (hml : mg "list" = none) (hgr : GlS sc "range") (hmr : mg "range" = none) (h : Ev X A e (.dat (.int n))) (h1 : 0 ≤ n) (h2 : n ≤ 16777216)
    (na : starEach [e] X.env = (false, eval e X.env) :: starEach [] X.env := by rfl) (nb : starEach [.Call (.Name "range" p2) [e] [] p3] X.env = (false, eval (.Call (.Name "range" p2) [e] [] p3) X.env) :: starEach [] X.env := by rfl) :
    Ev X A (.Call (.Name "list" p) [.Call (.Name "range" p2) [e] [] p3] [] pos) (.own (.lst (((List.range n.toNat).map fun i : Nat => (i : Int)).map .int))) := fun I0 H0 σ I H rl Q q' =>
  wx_of (pe_listRg hX.calm (hX.gl hgl) (by rw [hX.eM]; exact hml) (prg_1 (hX.gl hgr) (by rw [hX.eM]; exact hmr) wx_pe na) nb) (h I0 H0 σ I H rl _ fun v I1 H1 g hv => ⟨n, dp_int hv, RgOk.of_le (by omega) h2 (by omega) h1, fun q hq => by
    have g2 := Grow.newH (o := .lst (rgV 0 n)) g.ih hq
    refine q' _ _ _ (g.trans g2) ⟨q, _, rfl, g.hh.free hq, g.ih.free hq, upd_same, ?_⟩
    rw [rg0]
    exact dpAll_ints _⟩)
/-- a, b, .. = a new tuple with a new list behind -/
theorem unpO {js : List Nat} {jl : Nat} {ds es : List PyData} {A' : List C} {tgs : List Expr} {kk} (hg : PGs X tgs (gNames (js ++ [jl]))) (he : Ev X A e (.tpo ds es)) (hu : uNames js A ds A') (hjl : A'[jl]?.isSome = true) (hlen : (assignEach tgs X.env).length = (js ++ [jl]).length := by rfl) (hst : (assignEach tgs X.env).findIdx? (·.1) = none := by rfl)
    (hs : swapsWithSole [.Tuple tgs kk p2] e pos.line X.env = pure false := by rfl) (hw : swappedStores [.Tuple tgs kk p2] e X.env = pure none := by rfl) : S1 X A (.Assign [.Tuple tgs kk p2] e pos) (.nx (A'.set jl (.own (.lst es)))) := fun I0 H0 σ I H rl D f =>
  ws_of (ps_asg wx_pe (pg_tup hX.calm hg hlen hst) hs hw) (he I0 H0 σ I H rl _ fun v I1 H1 g hv => by
    obtain ⟨p, q, vs, us, rfl, n1, n2, h1, a1, m1, m2, h2, a2⟩ := hv
    refine ⟨p, vs ++ [.ref q], rfl, .inl (.inl h1), ?_, tg_namesO (b := .lst es) (rl.gr.hh.free m1) m2 h2 (show ObAt X.K I1 (.lst us) (.lst es) from a2) hu hjl (rl.grow g) a1 (fun i hi => rl.far m1 i hi) _ fun σ' r' => f σ' I1 H1 g.ii r'⟩
    rw [List.length_append, List.length_append, dpAll_len a1, uNames_len hu]
    rfl)
end
end LR

namespace W
open PySem PySem.Spec PyProof.Rows L2 LR
def topS (i : Nat) : Stmt := PySem.Challenge.pw_longrounds_k63_primes_of_rings.main.body.getD i (.Pass ⟨0, 0, 0, 0⟩)
abbrev s_on : Stmt := topS 1
theorem sc_on : FnScope ["P", "n"] ["P", "n"] (defScope s_on) := ⟨rfl, rfl, rfl, by decide +kernel, rfl, by decide +kernel, by decide +kernel⟩
abbrev s_worth : Stmt := topS 3
theorem sc_worth : FnScope ["P", "form", "stand", "n", "k"] ["P", "form", "stand"] (defScope s_worth) := ⟨rfl, rfl, rfl, by decide +kernel, rfl, by decide +kernel, by decide +kernel⟩
abbrev s_turned : Stmt := topS 4
theorem sc_turned : FnScope ["P", "table", "stand", "form"] ["P", "table", "stand"] (defScope s_turned) := ⟨rfl, rfl, rfl, by decide +kernel, rfl, by decide +kernel, by decide +kernel⟩
abbrev s_box_form : Stmt := topS 5
theorem sc_box_form : FnScope ["many", "x", "k"] ["many", "x"] (defScope s_box_form) := ⟨rfl, rfl, rfl, by decide +kernel, rfl, by decide +kernel, by decide +kernel⟩
abbrev s_idle : Stmt := topS 6
theorem sc_idle : FnScope ["many", "x"] ["many"] (defScope s_idle) := ⟨rfl, rfl, rfl, by decide +kernel, rfl, by decide +kernel, by decide +kernel⟩
abbrev s_setting : Stmt := topS 7
theorem sc_setting : FnScope ["many", "x", "form", "found"] ["many", "x", "form"] (defScope s_setting) := ⟨rfl, rfl, rfl, by decide +kernel, rfl, by decide +kernel, by decide +kernel⟩
abbrev s_form_behind : Stmt := topS 8
theorem sc_form_behind : FnScope ["P", "one", "form", "many", "row", "k", "at"] ["P", "one", "form"] (defScope s_form_behind) := ⟨rfl, rfl, rfl, by decide +kernel, rfl, by decide +kernel, by decide +kernel⟩
abbrev s_then : Stmt := topS 9
theorem sc_then : FnScope ["P", "one", "other", "form"] ["P", "one", "other"] (defScope s_then) := ⟨rfl, rfl, rfl, by decide +kernel, rfl, by decide +kernel, by decide +kernel⟩
abbrev s_ladder : Stmt := topS 11
theorem sc_ladder : FnScope ["P", "table", "n", "found"] ["P", "table", "n"] (defScope s_ladder) := ⟨rfl, rfl, rfl, by decide +kernel, rfl, by decide +kernel, by decide +kernel⟩
abbrev s_rounds : Stmt := topS 12
theorem sc_rounds : FnScope ["P", "table", "n", "whole", "one"] ["P", "table", "n"] (defScope s_rounds) := ⟨rfl, rfl, rfl, by decide +kernel, rfl, by decide +kernel, by decide +kernel⟩
abbrev s_table_of : Stmt := topS 13
theorem sc_table_of : FnScope ["P", "many", "items", "whole", "item", "one"] ["P", "many", "items"] (defScope s_table_of) := ⟨rfl, rfl, rfl, by decide +kernel, rfl, by decide +kernel, by decide +kernel⟩
abbrev s_primes_of : Stmt := topS 15
theorem sc_primes_of : FnScope ["n", "found", "by"] ["n"] (defScope s_primes_of) := ⟨rfl, rfl, rfl, by decide +kernel, rfl, by decide +kernel, by decide +kernel⟩
abbrev s_parts_of_span : Stmt := topS 16
theorem sc_parts_of_span : FnScope ["P", "many", "parts"] ["P", "many"] (defScope s_parts_of_span) := ⟨rfl, rfl, rfl, by decide +kernel, rfl, by decide +kernel, by decide +kernel⟩
abbrev s_jumped : Stmt := topS 17
theorem sc_jumped : FnScope ["P", "steps", "n", "stand", "one"] ["P", "steps", "n", "stand"] (defScope s_jumped) := ⟨rfl, rfl, rfl, by decide +kernel, rfl, by decide +kernel, by decide +kernel⟩
abbrev s_ring : Stmt := topS 18
theorem sc_ring : FnScope ["P", "many", "items", "stand", "span", "primes", "part", "q", "table", "steps", "t", "r"] ["P", "many", "items", "stand"] (defScope s_ring) := ⟨rfl, rfl, rfl, by decide +kernel, rfl, by decide +kernel, by decide +kernel⟩
abbrev s__law_cell : Stmt := topS 20
theorem sc__law_cell : FnScope ["script", "k"] ["script", "k"] (defScope s__law_cell) := ⟨rfl, rfl, rfl, by decide +kernel, rfl, by decide +kernel, by decide +kernel⟩
abbrev s__law_prime : Stmt := topS 21
theorem sc__law_prime : FnScope ["cell", "n", "by"] ["cell"] (defScope s__law_prime) := ⟨rfl, rfl, rfl, by decide +kernel, rfl, by decide +kernel, by decide +kernel⟩
abbrev s__law_digits : Stmt := topS 22
theorem sc__law_digits : FnScope ["cell", "P", "size", "out", "k"] ["cell", "P", "size"] (defScope s__law_digits) := ⟨rfl, rfl, rfl, by decide +kernel, rfl, by decide +kernel, by decide +kernel⟩
abbrev s__law_whole : Stmt := topS 23
theorem sc__law_whole : FnScope ["found"] ["found"] (defScope s__law_whole) := ⟨rfl, rfl, rfl, by decide +kernel, rfl, by decide +kernel, by decide +kernel⟩
abbrev s__law_worth : Stmt := topS 24
theorem sc__law_worth : FnScope ["P", "form", "stand", "k"] ["P", "form", "stand"] (defScope s__law_worth) := ⟨rfl, rfl, rfl, by decide +kernel, rfl, by decide +kernel, by decide +kernel⟩
abbrev s__law_turned : Stmt := topS 25
theorem sc__law_turned : FnScope ["P", "table", "stand", "form"] ["P", "table", "stand"] (defScope s__law_turned) := ⟨rfl, rfl, rfl, by decide +kernel, rfl, by decide +kernel, by decide +kernel⟩
abbrev s__law_count : Stmt := topS 26
theorem sc__law_count : FnScope ["cell"] ["cell"] (defScope s__law_count) := ⟨rfl, rfl, rfl, by decide +kernel, rfl, by decide +kernel, by decide +kernel⟩
abbrev s__law_set : Stmt := topS 27
theorem sc__law_set : FnScope ["cell", "more", "P", "many", "x", "form"] ["cell", "more", "P", "many"] (defScope s__law_set) := ⟨rfl, rfl, rfl, by decide +kernel, rfl, by decide +kernel, by decide +kernel⟩
abbrev s__law_items : Stmt := topS 28
theorem sc__law_items : FnScope ["cells", "P", "many", "agains", "items", "deep", "k", "few", "level"] ["cells", "P", "many", "agains"] (defScope s__law_items) := ⟨rfl, rfl, rfl, by decide +kernel, rfl, by decide +kernel, by decide +kernel⟩
abbrev s__law_is_prime : Stmt := topS 29
theorem sc__law_is_prime : FnScope ["n", "by"] ["n"] (defScope s__law_is_prime) := ⟨rfl, rfl, rfl, by decide +kernel, rfl, by decide +kernel, by decide +kernel⟩
abbrev s_law : Stmt := topS 30
theorem sc_law : FnScope ["script", "P", "many", "stand", "items", "t", "r", "told", "table", "first", "left", "last", "q", "same"] ["script"] (defScope s_law) := ⟨rfl, rfl, rfl, by decide +kernel, rfl, by decide +kernel, by decide +kernel⟩
end W
open PySem PySem.Spec PyProof.Rows L2 LR
local macro_rules | `(tactic| wtm_at "dk") => `(tactic| decide +kernel)
local macro_rules | `(tactic| wtm_at "ra") => `(tactic| with_reducible assumption)
local macro_rules | `(tactic| wtm_at "sd") => `(tactic| first | (with_reducible assumption) | omega | (simp only [List.length_map, List.length_range, List.length_append, List.length_cons, List.length_nil, List.length_replicate, List.length_take, List.length_drop] at *; omega))
local macro_rules | `(tactic| wtm_at "sz") => `(tactic| first | decide +kernel | (simp only [sizeLine_eq, List.length_map, List.length_range, List.length_append, List.length_cons, List.length_nil, List.length_replicate, List.length_take, List.length_drop] at *; omega))
local macro_rules | `(tactic| wtm_at "seqd") => `(tactic| first | exact SeqD.tup | exact SeqD.lst)
local macro_rules | `(tactic| wtm_at "seq") => `(tactic| first
  | (wtm_at "own")
  | (refine' evs_new ?a_m1; (case' a_m1 => wtm_at "evl"))
  | (refine' evs_dat ?a_m2 ?r_m2; (case' a_m2 => wtm_at "ev"); (case' r_m2 => wtm_at "seqd"))
  | (refine' evs_new ?a_m3; (case' a_m3 => wtm_at "ev")))
local macro_rules | `(tactic| wtm_at "evl") => `(tactic| first
  | (refine' ev_lst ?a_m4 ?sd_m4; (case' a_m4 => wtm_at "args"); (case' sd_m4 => wtm_at "sz"))
  | ((with_reducible refine' ev_takeL ?sa_n70 ?sb_n70 ?sc_n70); (case' sa_n70 => wtm_at "seq"); (case' sb_n70 => wtm_at "ev"); (case' sc_n70 => try (wtm_at "sd")))
  | ((with_reducible refine' ev_dropL ?sa_n71 ?sb_n71 ?sc_n71); (case' sa_n71 => wtm_at "seq"); (case' sb_n71 => wtm_at "ev"); (case' sc_n71 => try (wtm_at "sd")))
  | ((with_reducible refine' ev_midL ?sa_n72 ?sb_n72 ?sc_n72 ?sd_n72 ?se_n72); (case' sa_n72 => wtm_at "seq"); (case' sb_n72 => wtm_at "ev"); (case' sc_n72 => wtm_at "ev"); (case' sd_n72 => try (wtm_at "sd")); (case' se_n72 => try (wtm_at "sd")))
  | (refine' ev_slL ?a_m5 ?l_m5 ?u_m5; (case' a_m5 => wtm_at "seq"); (case' l_m5 => wtm_at "part"); (case' u_m5 => wtm_at "part"))
  | ((with_reducible show Ev _ _ (.Call (.Name "list" _) _ _ _) _); wtm_at "call"))
local macro_rules | `(tactic| wtm_at "bin") => `(tactic| first
  | exact BinD.add | exact BinD.sub
  | (refine' BinD.mul ?sd_m6; try (case sd_m6 => (first | (with_reducible assumption) | exact Or.inl (by omega) | exact Or.inr (by omega))))
  | (refine' BinD.mod ?sd_m7; try (case sd_m7 => wtm_at "sd"))
  | (refine' BinD.div ?sd_m8 ?sd2_m8; try (case sd_m8 => wtm_at "sd"); try (case sd2_m8 => wtm_at "sd"))
  | (refine' BinD.pow ?sd_m9; try (case sd_m9 => (first | decide | exact ⟨by decide, by decide, by decide⟩ | (wtm_at "sd"))))
  | (with_reducible refine' BinD.catI ?sda; try (case sda => wtm_at "sz"))
  | (with_reducible refine' BinD.catI1 ?sdb; try (case sdb => wtm_at "sz"))
  | (with_reducible refine' BinD.cat1I ?sdc; try (case sdc => wtm_at "sz"))
  | (with_reducible refine' BinD.catT ?sdd; try (case sdd => wtm_at "sz"))
  | (with_reducible refine' BinD.catT1 ?sde; try (case sde => wtm_at "sz"))
  | (refine' BinD.cat ?sd_m10; try (case sd_m10 => wtm_at "sz"))
  | (refine' BinD.str ?sd_m11; try (case sd_m11 => wtm_at "sz")))
local macro_rules | `(tactic| wtm_at "cmp") => `(tactic| first
  | exact CmpD.lt | exact CmpD.le | exact CmpD.gt | exact CmpD.ge | exact CmpD.eqI | exact CmpD.neI | exact CmpD.eqS | exact CmpD.neS)
local macro_rules | `(tactic| wtm_at "cmpr") => `(tactic| first
  | (refine' cmpR_D ?cr1; (case' cr1 => wtm_at "cmp"))
  | (with_reducible exact cmpR_isN) | (with_reducible exact cmpR_notN)
  | exact cmpEqI (by assumption)
  | exact cmpNeI (by assumption)
  | exact cmpEqT (by assumption)
  | exact cmpNeT (by assumption))
local macro_rules | `(tactic| wtm_at "ix") => `(tactic| first
  | (with_reducible assumption)
  | (with_reducible refine' ixLastI ?sdl; try (case sdl => wtm_at "sd"))
  | (with_reducible refine' IxD.nIn ?sd_m12; try (case sd_m12 => wtm_at "sd"))
  | (with_reducible refine' IxD.nTn ?sd_m13; try (case sd_m13 => wtm_at "sd"))
  | (with_reducible refine' IxD.nI ?sd_m14 ?sd2_m14; try (case sd_m14 => wtm_at "sd"); try (case sd2_m14 => wtm_at "sd"))
  | (with_reducible refine' IxD.nT ?sd_m15 ?sd2_m15; try (case sd_m15 => wtm_at "sd"); try (case sd2_m15 => wtm_at "sd"))
  | (with_reducible refine' IxD.nS ?sd_m16 ?sd2_m16; try (case sd_m16 => wtm_at "sd"); try (case sd2_m16 => wtm_at "sd"))
  | (with_reducible refine' IxD.nL2 ?sd_m17 ?sd2_m17; try (case sd_m17 => wtm_at "sd"); try (case sd2_m17 => wtm_at "sd"))
  | (with_reducible refine' IxD.nL3 ?sd_m18 ?sd2_m18; try (case sd_m18 => wtm_at "sd"); try (case sd2_m18 => wtm_at "sd"))
  | (with_reducible refine' IxD.nL4 ?sd_m19 ?sd2_m19; try (case sd_m19 => wtm_at "sd"); try (case sd2_m19 => wtm_at "sd"))
  | (with_reducible refine' IxD.nTTn ?sdt; try (case sdt => wtm_at "sd"))
  | (with_reducible refine' IxD.nTT ?sdu ?sdv; try (case sdu => wtm_at "sd"); try (case sdv => wtm_at "sd"))
  | exact IxD.lit rfl)
local macro_rules | `(tactic| wtm_at "args") => `(tactic| first
  | exact ea_nil
  | (refine' ea_cons ?a_m20 ?b_m20; (case' a_m20 => wtm_at "ev"); (case' b_m20 => wtm_at "args")))
local macro_rules | `(tactic| wtm_at "R") => `(tactic| (constructor; all_goals try (wtm_at "sd")))
local macro_rules | `(tactic| wtm_at "part") => `(tactic| first | exact evo_none | (refine' evo_some ?pt1; (case' pt1 => wtm_at "ev")))
local macro_rules | `(tactic| wtm_at "call") => `(tactic| first
  | ((with_reducible show Ev _ _ (.Call (.Name "len" _) _ _ _) _); refine' lenF ?q1_m21 ?q2_m21 ?q3_m21 ?a_m21; (case' q1_m21 => assumption); (case' q2_m21 => decide +kernel); (case' q3_m21 => with_reducible assumption); (case' a_m21 => wtm_at "seq"))
  | ((with_reducible show Ev _ _ (.Call (.Name "tuple" _) _ _ _) _); refine' tupleF ?q1_m22 ?q2_m22 ?q3_m22 ?a_m22; (case' q1_m22 => assumption); (case' q2_m22 => decide +kernel); (case' q3_m22 => with_reducible assumption); (case' a_m22 => wtm_at "seq"))
  | ((with_reducible show Ev _ _ (.Call (.Name "list" _) _ _ _) _); refine' listF ?q1_m23 ?q2_m23 ?q3_m23 ?a_m23; (case' q1_m23 => assumption); (case' q2_m23 => decide +kernel); (case' q3_m23 => with_reducible assumption); (case' a_m23 => wtm_at "seq"))
  | ((with_reducible show Ev _ _ (.Call (.Name "int" _) _ _ _) _); refine' intBF ?q1_m24 ?q2_m24 ?q3_m24 ?a_m24; (case' q1_m24 => assumption); (case' q2_m24 => decide +kernel); (case' q3_m24 => with_reducible assumption); (case' a_m24 => wtm_at "ev"))
  | ((with_reducible show Ev _ _ (.Call (.Name "max" _) [_, _] _ _) _); refine' max2F ?q1_m25 ?q2_m25 ?q3_m25 ?a_m25; (case' q1_m25 => assumption); (case' q2_m25 => decide +kernel); (case' q3_m25 => with_reducible assumption); (case' a_m25 => wtm_at "args"))
  | ((with_reducible show Ev _ _ (.Call (.Name "min" _) [_, _] _ _) _); refine' min2F ?q1_m26 ?q2_m26 ?q3_m26 ?a_m26; (case' q1_m26 => assumption); (case' q2_m26 => decide +kernel); (case' q3_m26 => with_reducible assumption); (case' a_m26 => wtm_at "args"))
  | ((with_reducible show Ev _ _ (.Call (.Name "isinstance" _) _ _ _) _); refine' isiF ?q1_m27 ?q2_m27 ?q3_m27 ?a_m27 ?q4_m27 ?q5_m27 ?q6_m27 ?q7_m27 ?q8_m27 ?q9_m27; (case' q1_m27 => assumption); (case' a_m27 => wtm_at "ev"); (case' q2_m27 => decide +kernel); (case' q3_m27 => with_reducible assumption); (case' q4_m27 => decide +kernel); (case' q5_m27 => with_reducible assumption); (case' q6_m27 => decide +kernel); (case' q7_m27 => (dsimp only [tyD]; first | (show _ = some true; decide +kernel) | (show _ = some false; decide +kernel))); (case' q8_m27 => decide); (case' q9_m27 => decide))
  | (refine' callF ?q1_m28 ?q2_m28 ?q3_m28 ?q4_m28 ?a_m28 ?r_m28 ?q5_m28; (case' q1_m28 => assumption); (case' q2_m28 => with_reducible assumption); (case' q3_m28 => decide); (case' q4_m28 => decide +kernel); (case' q5_m28 => decide +kernel); (case' a_m28 => wtm_at "args"); (case' r_m28 => wtm_at "R")))
local macro_rules | `(tactic| wtm_at "bools") => `(tactic| first
  | (refine' ev_one ?a_m29; (case' a_m29 => wtm_at "ev"))
  | (refine' ev_and ?a_m30 (fun _ => ?b_m30); (case' a_m30 => wtm_at "ev"); (case' b_m30 => wtm_at "bools"))
  | (refine' ev_or ?a_m31 (fun _ => ?b_m31); (case' a_m31 => wtm_at "ev"); (case' b_m31 => wtm_at "bools")))
local macro_rules | `(tactic| wtm_at "evL") => `(tactic| first
  | (wtm_at "ownl")
  | (refine' evl_new ?eL1; (case' eL1 => first | (wtm_at "evl") | (wtm_at "ev"))))
local macro_rules | `(tactic| wtm_at "ev") => `(tactic| first
  | (wtm_at "nm")
  | exact ev_int
  | ((with_reducible show Ev _ _ (.BinOp (.Tuple _ _ _) .Mult _ _) _); refine' ev_repI ?rp1 ?rp2 ?rp3 ?rp4; (case' rp1 => wtm_at "ev"); (case' rp2 => wtm_at "ev"); (case' rp3 => try (wtm_at "sd")); (case' rp4 => try (wtm_at "sd")))
  | ((with_reducible show Ev _ _ (.BinOp (.List _ _) .Mult _ _) _); refine' ev_repLI ?rq1 ?rq2 ?rq3 ?rq4; (case' rq1 => wtm_at "evL"); (case' rq2 => wtm_at "ev"); (case' rq3 => try (wtm_at "sd")); (case' rq4 => try (wtm_at "sd")))
  | (refine' ev_bin ?a_m32 ?b_m32 ?r_m32; (case' a_m32 => wtm_at "ev"); (case' b_m32 => wtm_at "ev"); (case' r_m32 => wtm_at "bin"))
  | (refine' ev_cmpR ?cm1 ?cm2 ?cm3; (case' cm1 => wtm_at "ev"); (case' cm2 => wtm_at "ev"); (case' cm3 => wtm_at "cmpr"))
  | (wtm_at "call")
  | ((with_reducible show Ev _ _ (.BinOp _ .Add _ _) _); refine' ev_catL ?cl1 ?cl2 ?cl3; (case' cl1 => wtm_at "evL"); (case' cl2 => wtm_at "evL"); (case' cl3 => try (wtm_at "sz")))
  | ((with_reducible refine' ev_takeL ?sa_m70 ?sb_m70 ?sc_m70); (case' sa_m70 => wtm_at "seq"); (case' sb_m70 => wtm_at "ev"); (case' sc_m70 => try (wtm_at "sd")))
  | ((with_reducible refine' ev_dropL ?sa_m71 ?sb_m71 ?sc_m71); (case' sa_m71 => wtm_at "seq"); (case' sb_m71 => wtm_at "ev"); (case' sc_m71 => try (wtm_at "sd")))
  | ((with_reducible refine' ev_midL ?sa_m72 ?sb_m72 ?sc_m72 ?sd_m72 ?se_m72); (case' sa_m72 => wtm_at "seq"); (case' sb_m72 => wtm_at "ev"); (case' sc_m72 => wtm_at "ev"); (case' sd_m72 => try (wtm_at "sd")); (case' se_m72 => try (wtm_at "sd")))
  | ((with_reducible refine' ev_takeT ?sa_m73 ?sb_m73 ?sc_m73); (case' sa_m73 => wtm_at "ev"); (case' sb_m73 => wtm_at "ev"); (case' sc_m73 => try (wtm_at "sd")))
  | ((with_reducible refine' ev_dropT ?sa_m74 ?sb_m74 ?sc_m74); (case' sa_m74 => wtm_at "ev"); (case' sb_m74 => wtm_at "ev"); (case' sc_m74 => try (wtm_at "sd")))
  | ((with_reducible refine' ev_midT ?sa_m75 ?sb_m75 ?sc_m75 ?sd_m75 ?se_m75); (case' sa_m75 => wtm_at "ev"); (case' sb_m75 => wtm_at "ev"); (case' sc_m75 => wtm_at "ev"); (case' sd_m75 => try (wtm_at "sd")); (case' se_m75 => try (wtm_at "sd")))
  | (refine' ev_slL ?a_m34 ?l_m34 ?u_m34; (case' a_m34 => wtm_at "seq"); (case' l_m34 => wtm_at "part"); (case' u_m34 => wtm_at "part"))
  | (refine' ev_slT ?a_m35 ?l_m35 ?u_m35; (case' a_m35 => wtm_at "ev"); (case' l_m35 => wtm_at "part"); (case' u_m35 => wtm_at "part"))
  | (refine' ev_atD ?a_m36 ?b_m36 ?r_m36 ?px_m36; (case' px_m36 => exact fun _ _ => rfl); (case' a_m36 => wtm_at "seq"); (case' b_m36 => wtm_at "ev"); (case' r_m36 => wtm_at "ix"))
  | (refine' ev_tup ?a_m37 ?sd_m37; (case' a_m37 => wtm_at "args"); (case' sd_m37 => wtm_at "sz"))
  | (refine' ev_lst ?a_m38 ?sd_m38; (case' a_m38 => wtm_at "args"); (case' sd_m38 => wtm_at "sz"))
  | exact ev_str
  | exact ev_bl
  | exact ev_non
  | (refine' ev_neg ?a_m39; (case' a_m39 => wtm_at "ev"))
  | (refine' ev_not ?a_m40; (case' a_m40 => wtm_at "ev"))
  | (refine' ev_chainR ?a_m41 ?b_m41 ?c_m41 (cmpR_D ?d_m41) (cmpR_D ?f_m41); (case' a_m41 => wtm_at "ev"); (case' b_m41 => wtm_at "ev"); (case' c_m41 => wtm_at "ev"); (case' d_m41 => wtm_at "cmp"); (case' f_m41 => wtm_at "cmp"))
  | (wtm_at "bools"))
local macro_rules | `(tactic| wtm_at "tw") => `(tactic| first
  | (refine' ew_and1 ?a_m42; (case' a_m42 => wtm_at "test"))
  | (refine' ew_or1 ?a_m43; (case' a_m43 => wtm_at "test"))
  | (refine' ew_and ?a_m44 (fun _ => ?b_m44); (case' a_m44 => wtm_at "test"); (case' b_m44 => wtm_at "tw"))
  | (refine' ew_or ?a_m45 (fun _ => ?b_m45); (case' a_m45 => wtm_at "test"); (case' b_m45 => wtm_at "tw")))
local macro_rules | `(tactic| wtm_at "test") => `(tactic| first
  | (refine' ew_et ?a_m46; (case' a_m46 => wtm_at "tw"))
  | (refine' et_not ?a_m47; (case' a_m47 => wtm_at "test"))
  | (refine' et_cmpR ?ct1 ?ct2 ?ct3; (case' ct1 => wtm_at "ev"); (case' ct2 => wtm_at "ev"); (case' ct3 => wtm_at "cmpr"))
  | (refine' et_chain ?a_m49 ?b_m49 ?c_m49 (cmpR_D ?d_m49) (cmpR_D ?f_m49); (case' a_m49 => wtm_at "ev"); (case' b_m49 => wtm_at "ev"); (case' c_m49 => wtm_at "ev"); (case' d_m49 => wtm_at "cmp"); (case' f_m49 => wtm_at "cmp"))
  | (refine' et_ev ?a_m50; (case' a_m50 => wtm_at "ev"))
  | (refine' et_seq ?a_m51; (case' a_m51 => wtm_at "seq")))
local macro_rules | `(tactic| wtm_at "lec") => `(tactic| first
  | exact LeC.un
  | (with_reducible exact LeC.refl)
  | (refine' LeC.int ?sd_m52; try (case sd_m52 => (first | (wtm_at "sd") | rfl)))
  | (refine' LeC.str ?sd_m53; try (case sd_m53 => (first | (wtm_at "sd") | rfl)))
  | (refine' LeC.tupI ?sd_m54; try (case sd_m54 => (first | (wtm_at "sd") | rfl)))
  | (refine' LeC.tup ?sd_m55; try (case sd_m55 => (first | (wtm_at "sd") | rfl)))
  | (refine' LeC.dat ?sd_m56; try (case sd_m56 => (first | (wtm_at "sd") | rfl)))
  | (refine' LeC.own ?sd_m57; try (case sd_m57 => (first | (wtm_at "sd") | rfl))))
local macro_rules | `(tactic| wtm_at "le") => `(tactic| first
  | exact LeA.nil
  | (refine' LeA.cons ?a_m58 ?b_m58; (case' a_m58 => wtm_at "lec"); (case' b_m58 => wtm_at "le")))
local macro_rules | `(tactic| wtm_at "ret") => `(tactic| first
  | (wtm_at "reto")
  | (refine' s1_retE ?e_m59 ?sd_m59; (case' e_m59 => wtm_at "ev"); try (case sd_m59 => rfl)))
local macro_rules | `(tactic| wtm_at "st") => `(tactic| first | (wtm_at "set") | (wtm_at "app") | (wtm_at "put") | (wtm_at "ret"))
local macro_rules | `(tactic| wtm_at "iter") => `(tactic| first
  | (refine' rangeF ?q1_m60 ?q2_m60 ?q3_m60 ?a_m60 ?sd_m60 ?sd2_m60; (case' q1_m60 => assumption); (case' q2_m60 => decide +kernel); (case' q3_m60 => with_reducible assumption); (case' a_m60 => wtm_at "ev"); (case' sd_m60 => try (wtm_at "sd")); (case' sd2_m60 => try (wtm_at "sd")))
  | (refine' range2F ?q1_m61 ?q2_m61 ?q3_m61 ?a_m61 ?sd_m61 ?sd2_m61 ?sd3_m61 ?sd4_m61; (case' q1_m61 => assumption); (case' q2_m61 => decide +kernel); (case' q3_m61 => with_reducible assumption); (case' a_m61 => wtm_at "args"); (case' sd_m61 => try (wtm_at "sd")); (case' sd2_m61 => try (wtm_at "sd")); (case' sd3_m61 => try (wtm_at "sd")); (case' sd4_m61 => try (wtm_at "sd")))
  | (refine' ei_dat ?a_m62 ?r_m62; (case' a_m62 => wtm_at "ev"); (case' r_m62 => wtm_at "seqd"))
  | (refine' ei_dat (ev_frz ?a_m63) SeqD.lst; (case' a_m63 => wtm_at "ev")))
namespace W
open PySem PySem.Spec PyProof.Rows L2 LR
section
variable {P : Program} {w : World} {K : PySem.W.Frag} {mg : Str → Option Value} {base : Heap}
inductive rOn : List PyData → Res → Prop
  | mk {P n : Int} (h : 0 < P) : rOn [.int P, .int n] (.ok (.dat (.int (n % P))))
local macro_rules | `(tactic| wtm_at "nm") => `(tactic| first
  | ((with_reducible show Ev _ _ (.Name "P" _) _); exact nmF (by assumption) 0 (by rfl) rfl (by decide +kernel) (by decide +kernel) (by decide +kernel))
  | ((with_reducible show Ev _ _ (.Name "n" _) _); exact nmF (by assumption) 1 (by rfl) rfl (by decide +kernel) (by decide +kernel) (by decide +kernel)))
local macro_rules | `(tactic| wtm_at "own") => `(tactic| first
  | ((with_reducible show EvS _ _ (.Name "P" _) _ _); exact ownF (by assumption) 0 (by rfl) rfl (by decide +kernel) (by decide +kernel) (by decide +kernel))
  | ((with_reducible show EvS _ _ (.Name "n" _) _ _); exact ownF (by assumption) 1 (by rfl) rfl (by decide +kernel) (by decide +kernel) (by decide +kernel)))
local macro_rules | `(tactic| wtm_at "ownl") => `(tactic| first
  | ((with_reducible show EvL _ _ (.Name "P" _) _); exact ownlF (by assumption) 0 (by rfl) rfl (by decide +kernel) (by decide +kernel) (by decide +kernel))
  | ((with_reducible show EvL _ _ (.Name "n" _) _); exact ownlF (by assumption) 1 (by rfl) rfl (by decide +kernel) (by decide +kernel) (by decide +kernel)))
local macro_rules | `(tactic| wtm_at "set") => `(tactic| first
  | ((with_reducible show S1 _ _ (.Assign [.Name "P" _] _ _) _); refine' setF ?st1 ?st2 0 ?st3 ?st4 ?ste ?st5; (case' st1 => assumption); (case' st2 => assumption); (case' st3 => rfl); (case' st4 => decide +kernel); (case' ste => wtm_at "ev"); (case' st5 => rfl))
  | ((with_reducible show S1 _ _ (.Assign [.Name "n" _] _ _) _); refine' setF ?st1 ?st2 1 ?st3 ?st4 ?ste ?st5; (case' st1 => assumption); (case' st2 => assumption); (case' st3 => rfl); (case' st4 => decide +kernel); (case' ste => wtm_at "ev"); (case' st5 => rfl)))
local macro_rules | `(tactic| wtm_at "app") => `(tactic| first
  | ((with_reducible show S1 _ _ (.Expr (.Call (.Attribute (.Name "P" _) _ _) _ _ _) _) _); refine' appF ?ap1 0 ?ap2 ?ap3 ?ap4 ?ape ?aps ?ap5 ?ap6; (case' ap1 => assumption); (case' ap2 => rfl); (case' ap3 => rfl); (case' ap4 => decide +kernel); (case' ape => wtm_at "ev"); (case' aps => try (wtm_at "sz")); (case' ap5 => decide +kernel); (case' ap6 => decide +kernel))
  | ((with_reducible show S1 _ _ (.Expr (.Call (.Attribute (.Name "n" _) _ _) _ _ _) _) _); refine' appF ?ap1 1 ?ap2 ?ap3 ?ap4 ?ape ?aps ?ap5 ?ap6; (case' ap1 => assumption); (case' ap2 => rfl); (case' ap3 => rfl); (case' ap4 => decide +kernel); (case' ape => wtm_at "ev"); (case' aps => try (wtm_at "sz")); (case' ap5 => decide +kernel); (case' ap6 => decide +kernel)))
local macro_rules | `(tactic| wtm_at "put") => `(tactic| first
  | ((with_reducible show S1 _ _ (.Assign [.Subscript (.Name "P" _) _ _] _ _) _); refine' putF ?pu1 0 ?pu2 ?pu3 ?pu4 ?pue ?pui ?pu5 ?pu6 ?pu7 ?pu8; (case' pu1 => assumption); (case' pu2 => rfl); (case' pu3 => rfl); (case' pu4 => decide +kernel); (case' pue => wtm_at "ev"); (case' pui => wtm_at "ev"); (case' pu5 => try (wtm_at "sd")); (case' pu6 => try (wtm_at "sd")); (case' pu7 => decide +kernel); (case' pu8 => decide +kernel))
  | ((with_reducible show S1 _ _ (.Assign [.Subscript (.Name "n" _) _ _] _ _) _); refine' putF ?pu1 1 ?pu2 ?pu3 ?pu4 ?pue ?pui ?pu5 ?pu6 ?pu7 ?pu8; (case' pu1 => assumption); (case' pu2 => rfl); (case' pu3 => rfl); (case' pu4 => decide +kernel); (case' pue => wtm_at "ev"); (case' pui => wtm_at "ev"); (case' pu5 => try (wtm_at "sd")); (case' pu6 => try (wtm_at "sd")); (case' pu7 => decide +kernel); (case' pu8 => decide +kernel)))
local macro_rules | `(tactic| wtm_at "reto") => `(tactic| first
  | ((with_reducible show S1 _ _ (.Return (some (.Name "P" _)) _) _); exact retOF (by assumption) 0 (by rfl) rfl (by decide +kernel) (by decide +kernel) (by decide +kernel))
  | ((with_reducible show S1 _ _ (.Return (some (.Name "n" _)) _) _); exact retOF (by assumption) 1 (by rfl) rfl (by decide +kernel) (by decide +kernel) (by decide +kernel)))
local macro_rules | `(tactic| wtm_at "tgt") => `(tactic| first
  | ((with_reducible show PG _ (.Name "P" _) _); exact tgF (by assumption) (by assumption) 0 (by rfl) (by decide +kernel))
  | ((with_reducible show PG _ (.Name "n" _) _); exact tgF (by assumption) (by assumption) 1 (by rfl) (by decide +kernel)))
theorem ok_on {f : Addr} {fd : FuncData} (F : Fun K "on" "on" s_on f fd) (hm : mg "on" = some (.ref f)) (b : Binds K fd ["P", "n"] []) : Fn P w K mg base 1 "on" ["P", "n"] rOn := by
  refine fnF F hm b sc_on (fun ds r h => by cases h; rfl) fun X hX hT ds r h => ?_
  cases h with
  | mk h =>
    refine' sm_end ?s1
    case' s1 => wtm_at "st"
def wsum (f s : List Int) (k : Nat) : Int := f.getD s.length 0 + ((List.range k).map fun j => f.getD j 0 * s.getD j 0).sum
theorem wsum_succ (f s : List Int) (k : Nat) : wsum f s (k + 1) = wsum f s k + f.getD k 0 * s.getD k 0 := by
  unfold wsum
  rw [List.range_succ, List.map_append, List.sum_append]
  simp
  omega
def worth (P : Int) (f s : List Int) : Int := wsum f s s.length % P
inductive rWorth : List PyData → Res → Prop
  | mk {P : Int} {f s : List Int} (h : 0 < P) (hl : f.length = s.length + 1) (hz : s.length ≤ 100) (hf : ∀ x ∈ f, 0 ≤ x ∧ x < 10000) : rWorth [.int P, tI f, tI s] (.ok (.dat (.int (worth P f s))))
theorem getD_mem {α : Type} {l : List α} {i : Nat} {z : α} (h : i < l.length) : l.getD i z ∈ l := by
  rw [List.getD_eq_getElem?_getD, List.getElem?_eq_getElem h]
  exact List.getElem_mem h
local macro_rules | `(tactic| wtm_at "nm") => `(tactic| first
  | ((with_reducible show Ev _ _ (.Name "P" _) _); exact nmF (by assumption) 0 (by rfl) rfl (by decide +kernel) (by decide +kernel) (by decide +kernel))
  | ((with_reducible show Ev _ _ (.Name "form" _) _); exact nmF (by assumption) 1 (by rfl) rfl (by decide +kernel) (by decide +kernel) (by decide +kernel))
  | ((with_reducible show Ev _ _ (.Name "stand" _) _); exact nmF (by assumption) 2 (by rfl) rfl (by decide +kernel) (by decide +kernel) (by decide +kernel))
  | ((with_reducible show Ev _ _ (.Name "n" _) _); exact nmF (by assumption) 3 (by rfl) rfl (by decide +kernel) (by decide +kernel) (by decide +kernel))
  | ((with_reducible show Ev _ _ (.Name "k" _) _); exact nmF (by assumption) 4 (by rfl) rfl (by decide +kernel) (by decide +kernel) (by decide +kernel)))
local macro_rules | `(tactic| wtm_at "own") => `(tactic| first
  | ((with_reducible show EvS _ _ (.Name "P" _) _ _); exact ownF (by assumption) 0 (by rfl) rfl (by decide +kernel) (by decide +kernel) (by decide +kernel))
  | ((with_reducible show EvS _ _ (.Name "form" _) _ _); exact ownF (by assumption) 1 (by rfl) rfl (by decide +kernel) (by decide +kernel) (by decide +kernel))
  | ((with_reducible show EvS _ _ (.Name "stand" _) _ _); exact ownF (by assumption) 2 (by rfl) rfl (by decide +kernel) (by decide +kernel) (by decide +kernel))
  | ((with_reducible show EvS _ _ (.Name "n" _) _ _); exact ownF (by assumption) 3 (by rfl) rfl (by decide +kernel) (by decide +kernel) (by decide +kernel))
  | ((with_reducible show EvS _ _ (.Name "k" _) _ _); exact ownF (by assumption) 4 (by rfl) rfl (by decide +kernel) (by decide +kernel) (by decide +kernel)))
local macro_rules | `(tactic| wtm_at "ownl") => `(tactic| first
  | ((with_reducible show EvL _ _ (.Name "P" _) _); exact ownlF (by assumption) 0 (by rfl) rfl (by decide +kernel) (by decide +kernel) (by decide +kernel))
  | ((with_reducible show EvL _ _ (.Name "form" _) _); exact ownlF (by assumption) 1 (by rfl) rfl (by decide +kernel) (by decide +kernel) (by decide +kernel))
  | ((with_reducible show EvL _ _ (.Name "stand" _) _); exact ownlF (by assumption) 2 (by rfl) rfl (by decide +kernel) (by decide +kernel) (by decide +kernel))
  | ((with_reducible show EvL _ _ (.Name "n" _) _); exact ownlF (by assumption) 3 (by rfl) rfl (by decide +kernel) (by decide +kernel) (by decide +kernel))
  | ((with_reducible show EvL _ _ (.Name "k" _) _); exact ownlF (by assumption) 4 (by rfl) rfl (by decide +kernel) (by decide +kernel) (by decide +kernel)))
local macro_rules | `(tactic| wtm_at "set") => `(tactic| first
  | ((with_reducible show S1 _ _ (.Assign [.Name "P" _] _ _) _); refine' setF ?st1 ?st2 0 ?st3 ?st4 ?ste ?st5; (case' st1 => assumption); (case' st2 => assumption); (case' st3 => rfl); (case' st4 => decide +kernel); (case' ste => wtm_at "ev"); (case' st5 => rfl))
  | ((with_reducible show S1 _ _ (.Assign [.Name "form" _] _ _) _); refine' setF ?st1 ?st2 1 ?st3 ?st4 ?ste ?st5; (case' st1 => assumption); (case' st2 => assumption); (case' st3 => rfl); (case' st4 => decide +kernel); (case' ste => wtm_at "ev"); (case' st5 => rfl))
  | ((with_reducible show S1 _ _ (.Assign [.Name "stand" _] _ _) _); refine' setF ?st1 ?st2 2 ?st3 ?st4 ?ste ?st5; (case' st1 => assumption); (case' st2 => assumption); (case' st3 => rfl); (case' st4 => decide +kernel); (case' ste => wtm_at "ev"); (case' st5 => rfl))
  | ((with_reducible show S1 _ _ (.Assign [.Name "n" _] _ _) _); refine' setF ?st1 ?st2 3 ?st3 ?st4 ?ste ?st5; (case' st1 => assumption); (case' st2 => assumption); (case' st3 => rfl); (case' st4 => decide +kernel); (case' ste => wtm_at "ev"); (case' st5 => rfl))
  | ((with_reducible show S1 _ _ (.Assign [.Name "k" _] _ _) _); refine' setF ?st1 ?st2 4 ?st3 ?st4 ?ste ?st5; (case' st1 => assumption); (case' st2 => assumption); (case' st3 => rfl); (case' st4 => decide +kernel); (case' ste => wtm_at "ev"); (case' st5 => rfl)))
local macro_rules | `(tactic| wtm_at "app") => `(tactic| first
  | ((with_reducible show S1 _ _ (.Expr (.Call (.Attribute (.Name "P" _) _ _) _ _ _) _) _); refine' appF ?ap1 0 ?ap2 ?ap3 ?ap4 ?ape ?aps ?ap5 ?ap6; (case' ap1 => assumption); (case' ap2 => rfl); (case' ap3 => rfl); (case' ap4 => decide +kernel); (case' ape => wtm_at "ev"); (case' aps => try (wtm_at "sz")); (case' ap5 => decide +kernel); (case' ap6 => decide +kernel))
  | ((with_reducible show S1 _ _ (.Expr (.Call (.Attribute (.Name "form" _) _ _) _ _ _) _) _); refine' appF ?ap1 1 ?ap2 ?ap3 ?ap4 ?ape ?aps ?ap5 ?ap6; (case' ap1 => assumption); (case' ap2 => rfl); (case' ap3 => rfl); (case' ap4 => decide +kernel); (case' ape => wtm_at "ev"); (case' aps => try (wtm_at "sz")); (case' ap5 => decide +kernel); (case' ap6 => decide +kernel))
  | ((with_reducible show S1 _ _ (.Expr (.Call (.Attribute (.Name "stand" _) _ _) _ _ _) _) _); refine' appF ?ap1 2 ?ap2 ?ap3 ?ap4 ?ape ?aps ?ap5 ?ap6; (case' ap1 => assumption); (case' ap2 => rfl); (case' ap3 => rfl); (case' ap4 => decide +kernel); (case' ape => wtm_at "ev"); (case' aps => try (wtm_at "sz")); (case' ap5 => decide +kernel); (case' ap6 => decide +kernel))
  | ((with_reducible show S1 _ _ (.Expr (.Call (.Attribute (.Name "n" _) _ _) _ _ _) _) _); refine' appF ?ap1 3 ?ap2 ?ap3 ?ap4 ?ape ?aps ?ap5 ?ap6; (case' ap1 => assumption); (case' ap2 => rfl); (case' ap3 => rfl); (case' ap4 => decide +kernel); (case' ape => wtm_at "ev"); (case' aps => try (wtm_at "sz")); (case' ap5 => decide +kernel); (case' ap6 => decide +kernel))
  | ((with_reducible show S1 _ _ (.Expr (.Call (.Attribute (.Name "k" _) _ _) _ _ _) _) _); refine' appF ?ap1 4 ?ap2 ?ap3 ?ap4 ?ape ?aps ?ap5 ?ap6; (case' ap1 => assumption); (case' ap2 => rfl); (case' ap3 => rfl); (case' ap4 => decide +kernel); (case' ape => wtm_at "ev"); (case' aps => try (wtm_at "sz")); (case' ap5 => decide +kernel); (case' ap6 => decide +kernel)))
local macro_rules | `(tactic| wtm_at "put") => `(tactic| first
  | ((with_reducible show S1 _ _ (.Assign [.Subscript (.Name "P" _) _ _] _ _) _); refine' putF ?pu1 0 ?pu2 ?pu3 ?pu4 ?pue ?pui ?pu5 ?pu6 ?pu7 ?pu8; (case' pu1 => assumption); (case' pu2 => rfl); (case' pu3 => rfl); (case' pu4 => decide +kernel); (case' pue => wtm_at "ev"); (case' pui => wtm_at "ev"); (case' pu5 => try (wtm_at "sd")); (case' pu6 => try (wtm_at "sd")); (case' pu7 => decide +kernel); (case' pu8 => decide +kernel))
  | ((with_reducible show S1 _ _ (.Assign [.Subscript (.Name "form" _) _ _] _ _) _); refine' putF ?pu1 1 ?pu2 ?pu3 ?pu4 ?pue ?pui ?pu5 ?pu6 ?pu7 ?pu8; (case' pu1 => assumption); (case' pu2 => rfl); (case' pu3 => rfl); (case' pu4 => decide +kernel); (case' pue => wtm_at "ev"); (case' pui => wtm_at "ev"); (case' pu5 => try (wtm_at "sd")); (case' pu6 => try (wtm_at "sd")); (case' pu7 => decide +kernel); (case' pu8 => decide +kernel))
  | ((with_reducible show S1 _ _ (.Assign [.Subscript (.Name "stand" _) _ _] _ _) _); refine' putF ?pu1 2 ?pu2 ?pu3 ?pu4 ?pue ?pui ?pu5 ?pu6 ?pu7 ?pu8; (case' pu1 => assumption); (case' pu2 => rfl); (case' pu3 => rfl); (case' pu4 => decide +kernel); (case' pue => wtm_at "ev"); (case' pui => wtm_at "ev"); (case' pu5 => try (wtm_at "sd")); (case' pu6 => try (wtm_at "sd")); (case' pu7 => decide +kernel); (case' pu8 => decide +kernel))
  | ((with_reducible show S1 _ _ (.Assign [.Subscript (.Name "n" _) _ _] _ _) _); refine' putF ?pu1 3 ?pu2 ?pu3 ?pu4 ?pue ?pui ?pu5 ?pu6 ?pu7 ?pu8; (case' pu1 => assumption); (case' pu2 => rfl); (case' pu3 => rfl); (case' pu4 => decide +kernel); (case' pue => wtm_at "ev"); (case' pui => wtm_at "ev"); (case' pu5 => try (wtm_at "sd")); (case' pu6 => try (wtm_at "sd")); (case' pu7 => decide +kernel); (case' pu8 => decide +kernel))
  | ((with_reducible show S1 _ _ (.Assign [.Subscript (.Name "k" _) _ _] _ _) _); refine' putF ?pu1 4 ?pu2 ?pu3 ?pu4 ?pue ?pui ?pu5 ?pu6 ?pu7 ?pu8; (case' pu1 => assumption); (case' pu2 => rfl); (case' pu3 => rfl); (case' pu4 => decide +kernel); (case' pue => wtm_at "ev"); (case' pui => wtm_at "ev"); (case' pu5 => try (wtm_at "sd")); (case' pu6 => try (wtm_at "sd")); (case' pu7 => decide +kernel); (case' pu8 => decide +kernel)))
local macro_rules | `(tactic| wtm_at "reto") => `(tactic| first
  | ((with_reducible show S1 _ _ (.Return (some (.Name "P" _)) _) _); exact retOF (by assumption) 0 (by rfl) rfl (by decide +kernel) (by decide +kernel) (by decide +kernel))
  | ((with_reducible show S1 _ _ (.Return (some (.Name "form" _)) _) _); exact retOF (by assumption) 1 (by rfl) rfl (by decide +kernel) (by decide +kernel) (by decide +kernel))
  | ((with_reducible show S1 _ _ (.Return (some (.Name "stand" _)) _) _); exact retOF (by assumption) 2 (by rfl) rfl (by decide +kernel) (by decide +kernel) (by decide +kernel))
  | ((with_reducible show S1 _ _ (.Return (some (.Name "n" _)) _) _); exact retOF (by assumption) 3 (by rfl) rfl (by decide +kernel) (by decide +kernel) (by decide +kernel))
  | ((with_reducible show S1 _ _ (.Return (some (.Name "k" _)) _) _); exact retOF (by assumption) 4 (by rfl) rfl (by decide +kernel) (by decide +kernel) (by decide +kernel)))
local macro_rules | `(tactic| wtm_at "tgt") => `(tactic| first
  | ((with_reducible show PG _ (.Name "P" _) _); exact tgF (by assumption) (by assumption) 0 (by rfl) (by decide +kernel))
  | ((with_reducible show PG _ (.Name "form" _) _); exact tgF (by assumption) (by assumption) 1 (by rfl) (by decide +kernel))
  | ((with_reducible show PG _ (.Name "stand" _) _); exact tgF (by assumption) (by assumption) 2 (by rfl) (by decide +kernel))
  | ((with_reducible show PG _ (.Name "n" _) _); exact tgF (by assumption) (by assumption) 3 (by rfl) (by decide +kernel))
  | ((with_reducible show PG _ (.Name "k" _) _); exact tgF (by assumption) (by assumption) 4 (by rfl) (by decide +kernel)))
theorem ok_worth {f : Addr} {fd : FuncData} (F : Fun K "worth" "worth" s_worth f fd) (hm : mg "worth" = some (.ref f)) (b : Binds K fd ["P", "form", "stand"] []) (ml : mg "len" = none) (mr : mg "range" = none) (Gon : Fn P w K mg base 1 "on" ["P", "n"] rOn) :
    Fn P w K mg base 2 "worth" ["P", "form", "stand"] rWorth := by
  refine fnF F hm b sc_worth (fun ds r h => by cases h; rfl) fun X hX hT ds r h => ?_
  cases h with
  | @mk p f s hp hl hz hf =>
    refine' sm_cons ?s1 ?_
    case' s1 => wtm_at "st"
    refine' sm_cons ?s2 ?_
    case' s2 =>
      refine' forR0 hX (n := s.length) 4 (fun i => [.dat (.int p), .dat (tI f), .dat (tI s), .dat (.int (wsum f s i)), .un]) ?i ?src ?g ?l (fun _ => rfl) (fun i hi => ?b)
      case' i => wtm_at "iter"
      case' g => wtm_at "tgt"
      case' l => wtm_at "le"
      case src => simp
      case l => simp [wsum]
      have hm : CMul (f.getD i 0) (s.getD i 0) := .inl (by have := hf _ (getD_mem (z := 0) (show i < f.length by omega)); omega)
      refine' sm_le (sm_one ?s3) ?l3
      case' s3 => wtm_at "st"
      rw [wsum_succ]
      wtm_at "le"
    refine' sm_end ?s5
    case' s5 => wtm_at "st"
def turned (P : Int) (t : List (List Int)) (s : List Int) : List Int := t.map fun f => worth P f s
/-- a form of so many boxes -/
def Frm (n : Nat) (f : List Int) : Prop := f.length = n + 1 ∧ ∀ x ∈ f, 0 ≤ x ∧ x < 10000
inductive rTurned : List PyData → Res → Prop
  | mk {P : Int} {t : List (List Int)} {s : List Int} (h : 0 < P) (ht : ∀ f ∈ t, Frm s.length f) (hz : s.length ≤ 100) (hz2 : t.length ≤ 100) : rTurned [.int P, tT t, tI s] (.ok (.dat (tI (turned P t s))))
local macro_rules | `(tactic| wtm_at "nm") => `(tactic| first
  | ((with_reducible show Ev _ _ (.Name "P" _) _); exact nmF (by assumption) 0 (by rfl) rfl (by decide +kernel) (by decide +kernel) (by decide +kernel))
  | ((with_reducible show Ev _ _ (.Name "table" _) _); exact nmF (by assumption) 1 (by rfl) rfl (by decide +kernel) (by decide +kernel) (by decide +kernel))
  | ((with_reducible show Ev _ _ (.Name "stand" _) _); exact nmF (by assumption) 2 (by rfl) rfl (by decide +kernel) (by decide +kernel) (by decide +kernel))
  | ((with_reducible show Ev _ _ (.Name "form" _) _); exact nmF (by assumption) 3 (by rfl) rfl (by decide +kernel) (by decide +kernel) (by decide +kernel)))
local macro_rules | `(tactic| wtm_at "own") => `(tactic| first
  | ((with_reducible show EvS _ _ (.Name "P" _) _ _); exact ownF (by assumption) 0 (by rfl) rfl (by decide +kernel) (by decide +kernel) (by decide +kernel))
  | ((with_reducible show EvS _ _ (.Name "table" _) _ _); exact ownF (by assumption) 1 (by rfl) rfl (by decide +kernel) (by decide +kernel) (by decide +kernel))
  | ((with_reducible show EvS _ _ (.Name "stand" _) _ _); exact ownF (by assumption) 2 (by rfl) rfl (by decide +kernel) (by decide +kernel) (by decide +kernel))
  | ((with_reducible show EvS _ _ (.Name "form" _) _ _); exact ownF (by assumption) 3 (by rfl) rfl (by decide +kernel) (by decide +kernel) (by decide +kernel)))
local macro_rules | `(tactic| wtm_at "ownl") => `(tactic| first
  | ((with_reducible show EvL _ _ (.Name "P" _) _); exact ownlF (by assumption) 0 (by rfl) rfl (by decide +kernel) (by decide +kernel) (by decide +kernel))
  | ((with_reducible show EvL _ _ (.Name "table" _) _); exact ownlF (by assumption) 1 (by rfl) rfl (by decide +kernel) (by decide +kernel) (by decide +kernel))
  | ((with_reducible show EvL _ _ (.Name "stand" _) _); exact ownlF (by assumption) 2 (by rfl) rfl (by decide +kernel) (by decide +kernel) (by decide +kernel))
  | ((with_reducible show EvL _ _ (.Name "form" _) _); exact ownlF (by assumption) 3 (by rfl) rfl (by decide +kernel) (by decide +kernel) (by decide +kernel)))
local macro_rules | `(tactic| wtm_at "set") => `(tactic| first
  | ((with_reducible show S1 _ _ (.Assign [.Name "P" _] _ _) _); refine' setF ?st1 ?st2 0 ?st3 ?st4 ?ste ?st5; (case' st1 => assumption); (case' st2 => assumption); (case' st3 => rfl); (case' st4 => decide +kernel); (case' ste => wtm_at "ev"); (case' st5 => rfl))
  | ((with_reducible show S1 _ _ (.Assign [.Name "table" _] _ _) _); refine' setF ?st1 ?st2 1 ?st3 ?st4 ?ste ?st5; (case' st1 => assumption); (case' st2 => assumption); (case' st3 => rfl); (case' st4 => decide +kernel); (case' ste => wtm_at "ev"); (case' st5 => rfl))
  | ((with_reducible show S1 _ _ (.Assign [.Name "stand" _] _ _) _); refine' setF ?st1 ?st2 2 ?st3 ?st4 ?ste ?st5; (case' st1 => assumption); (case' st2 => assumption); (case' st3 => rfl); (case' st4 => decide +kernel); (case' ste => wtm_at "ev"); (case' st5 => rfl)))
local macro_rules | `(tactic| wtm_at "app") => `(tactic| first
  | ((with_reducible show S1 _ _ (.Expr (.Call (.Attribute (.Name "P" _) _ _) _ _ _) _) _); refine' appF ?ap1 0 ?ap2 ?ap3 ?ap4 ?ape ?aps ?ap5 ?ap6; (case' ap1 => assumption); (case' ap2 => rfl); (case' ap3 => rfl); (case' ap4 => decide +kernel); (case' ape => wtm_at "ev"); (case' aps => try (wtm_at "sz")); (case' ap5 => decide +kernel); (case' ap6 => decide +kernel))
  | ((with_reducible show S1 _ _ (.Expr (.Call (.Attribute (.Name "table" _) _ _) _ _ _) _) _); refine' appF ?ap1 1 ?ap2 ?ap3 ?ap4 ?ape ?aps ?ap5 ?ap6; (case' ap1 => assumption); (case' ap2 => rfl); (case' ap3 => rfl); (case' ap4 => decide +kernel); (case' ape => wtm_at "ev"); (case' aps => try (wtm_at "sz")); (case' ap5 => decide +kernel); (case' ap6 => decide +kernel))
  | ((with_reducible show S1 _ _ (.Expr (.Call (.Attribute (.Name "stand" _) _ _) _ _ _) _) _); refine' appF ?ap1 2 ?ap2 ?ap3 ?ap4 ?ape ?aps ?ap5 ?ap6; (case' ap1 => assumption); (case' ap2 => rfl); (case' ap3 => rfl); (case' ap4 => decide +kernel); (case' ape => wtm_at "ev"); (case' aps => try (wtm_at "sz")); (case' ap5 => decide +kernel); (case' ap6 => decide +kernel)))
local macro_rules | `(tactic| wtm_at "put") => `(tactic| first
  | ((with_reducible show S1 _ _ (.Assign [.Subscript (.Name "P" _) _ _] _ _) _); refine' putF ?pu1 0 ?pu2 ?pu3 ?pu4 ?pue ?pui ?pu5 ?pu6 ?pu7 ?pu8; (case' pu1 => assumption); (case' pu2 => rfl); (case' pu3 => rfl); (case' pu4 => decide +kernel); (case' pue => wtm_at "ev"); (case' pui => wtm_at "ev"); (case' pu5 => try (wtm_at "sd")); (case' pu6 => try (wtm_at "sd")); (case' pu7 => decide +kernel); (case' pu8 => decide +kernel))
  | ((with_reducible show S1 _ _ (.Assign [.Subscript (.Name "table" _) _ _] _ _) _); refine' putF ?pu1 1 ?pu2 ?pu3 ?pu4 ?pue ?pui ?pu5 ?pu6 ?pu7 ?pu8; (case' pu1 => assumption); (case' pu2 => rfl); (case' pu3 => rfl); (case' pu4 => decide +kernel); (case' pue => wtm_at "ev"); (case' pui => wtm_at "ev"); (case' pu5 => try (wtm_at "sd")); (case' pu6 => try (wtm_at "sd")); (case' pu7 => decide +kernel); (case' pu8 => decide +kernel))
  | ((with_reducible show S1 _ _ (.Assign [.Subscript (.Name "stand" _) _ _] _ _) _); refine' putF ?pu1 2 ?pu2 ?pu3 ?pu4 ?pue ?pui ?pu5 ?pu6 ?pu7 ?pu8; (case' pu1 => assumption); (case' pu2 => rfl); (case' pu3 => rfl); (case' pu4 => decide +kernel); (case' pue => wtm_at "ev"); (case' pui => wtm_at "ev"); (case' pu5 => try (wtm_at "sd")); (case' pu6 => try (wtm_at "sd")); (case' pu7 => decide +kernel); (case' pu8 => decide +kernel)))
local macro_rules | `(tactic| wtm_at "reto") => `(tactic| first
  | ((with_reducible show S1 _ _ (.Return (some (.Name "P" _)) _) _); exact retOF (by assumption) 0 (by rfl) rfl (by decide +kernel) (by decide +kernel) (by decide +kernel))
  | ((with_reducible show S1 _ _ (.Return (some (.Name "table" _)) _) _); exact retOF (by assumption) 1 (by rfl) rfl (by decide +kernel) (by decide +kernel) (by decide +kernel))
  | ((with_reducible show S1 _ _ (.Return (some (.Name "stand" _)) _) _); exact retOF (by assumption) 2 (by rfl) rfl (by decide +kernel) (by decide +kernel) (by decide +kernel)))
local macro_rules | `(tactic| wtm_at "tgt") => `(tactic| first
  | ((with_reducible show PG _ (.Name "P" _) _); exact tgF (by assumption) (by assumption) 0 (by rfl) (by decide +kernel))
  | ((with_reducible show PG _ (.Name "table" _) _); exact tgF (by assumption) (by assumption) 1 (by rfl) (by decide +kernel))
  | ((with_reducible show PG _ (.Name "stand" _) _); exact tgF (by assumption) (by assumption) 2 (by rfl) (by decide +kernel)))
theorem ok_turned {f : Addr} {fd : FuncData} (F : Fun K "turned" "turned" s_turned f fd) (hm : mg "turned" = some (.ref f)) (b : Binds K fd ["P", "table", "stand"] []) (mt : mg "tuple" = none) (Gw : Fn P w K mg base 2 "worth" ["P", "form", "stand"] rWorth) :
    Fn P w K mg base 3 "turned" ["P", "table", "stand"] rTurned := by
  refine fnF F hm b sc_turned (fun ds r h => by cases h; rfl) fun X hX hT ds r h => ?_
  cases h with
  | @mk p t s hp ht hz hz2 =>
    refine' sm_end (s1_ret ?s1)
    refine' ev_eq (tupleF hX (by decide +kernel) mt (evs_new (lcF hX 3 t tI (fun f => .int (worth p f s)) ?i rfl (by decide +kernel) (by rfl) (by decide +kernel) ?z rfl fun Y hY f hf => ?b))) ?e
    case' i => wtm_at "iter"
    case z => wtm_at "sz"
    case e => simp [turned, tI]
    have h1 := (ht f hf).1
    have h2 := (ht f hf).2
    wtm_at "call"
end
end W

namespace W
open PySem PySem.Spec PyProof.Rows L2 LR
section
variable {P : Program} {w : World} {K : PySem.W.Frag} {mg : Str → Option Value} {base : Heap}
def boxForm (n : Nat) (x : Int) : List Int := (List.range (n + 1)).map fun k : Nat => if decide ((k : Int) = x) then 1 else 0
def idle (n : Nat) : List (List Int) := (List.range n).map fun x : Nat => boxForm n x
theorem boxForm_frm (n : Nat) (x : Int) : Frm n (boxForm n x) := ⟨by simp [boxForm], fun y hy => by
  simp only [boxForm, List.mem_map] at hy
  obtain ⟨k, _, rfl⟩ := hy
  split <;> omega⟩
theorem idle_len (n : Nat) : (idle n).length = n := by simp [idle]
theorem idle_frm {n : Nat} : ∀ f ∈ idle n, Frm n f := fun f hf => by
  simp only [idle, List.mem_map] at hf
  obtain ⟨x, _, rfl⟩ := hf
  exact boxForm_frm n x
inductive rBox : List PyData → Res → Prop
  | mk {n : Nat} {x : Int} (h : n ≤ 100) : rBox [.int n, .int x] (.ok (.dat (tI (boxForm n x))))
local macro_rules | `(tactic| wtm_at "nm") => `(tactic| first
  | ((with_reducible show Ev _ _ (.Name "many" _) _); exact nmF (by assumption) 0 (by rfl) rfl (by decide +kernel) (by decide +kernel) (by decide +kernel))
  | ((with_reducible show Ev _ _ (.Name "x" _) _); exact nmF (by assumption) 1 (by rfl) rfl (by decide +kernel) (by decide +kernel) (by decide +kernel))
  | ((with_reducible show Ev _ _ (.Name "k" _) _); exact nmF (by assumption) 2 (by rfl) rfl (by decide +kernel) (by decide +kernel) (by decide +kernel)))
local macro_rules | `(tactic| wtm_at "own") => `(tactic| first
  | ((with_reducible show EvS _ _ (.Name "many" _) _ _); exact ownF (by assumption) 0 (by rfl) rfl (by decide +kernel) (by decide +kernel) (by decide +kernel))
  | ((with_reducible show EvS _ _ (.Name "x" _) _ _); exact ownF (by assumption) 1 (by rfl) rfl (by decide +kernel) (by decide +kernel) (by decide +kernel))
  | ((with_reducible show EvS _ _ (.Name "k" _) _ _); exact ownF (by assumption) 2 (by rfl) rfl (by decide +kernel) (by decide +kernel) (by decide +kernel)))
local macro_rules | `(tactic| wtm_at "ownl") => `(tactic| first
  | ((with_reducible show EvL _ _ (.Name "many" _) _); exact ownlF (by assumption) 0 (by rfl) rfl (by decide +kernel) (by decide +kernel) (by decide +kernel))
  | ((with_reducible show EvL _ _ (.Name "x" _) _); exact ownlF (by assumption) 1 (by rfl) rfl (by decide +kernel) (by decide +kernel) (by decide +kernel))
  | ((with_reducible show EvL _ _ (.Name "k" _) _); exact ownlF (by assumption) 2 (by rfl) rfl (by decide +kernel) (by decide +kernel) (by decide +kernel)))
local macro_rules | `(tactic| wtm_at "set") => `(tactic| first
  | ((with_reducible show S1 _ _ (.Assign [.Name "many" _] _ _) _); refine' setF ?st1 ?st2 0 ?st3 ?st4 ?ste ?st5; (case' st1 => assumption); (case' st2 => assumption); (case' st3 => rfl); (case' st4 => decide +kernel); (case' ste => wtm_at "ev"); (case' st5 => rfl))
  | ((with_reducible show S1 _ _ (.Assign [.Name "x" _] _ _) _); refine' setF ?st1 ?st2 1 ?st3 ?st4 ?ste ?st5; (case' st1 => assumption); (case' st2 => assumption); (case' st3 => rfl); (case' st4 => decide +kernel); (case' ste => wtm_at "ev"); (case' st5 => rfl)))
local macro_rules | `(tactic| wtm_at "app") => `(tactic| first
  | ((with_reducible show S1 _ _ (.Expr (.Call (.Attribute (.Name "many" _) _ _) _ _ _) _) _); refine' appF ?ap1 0 ?ap2 ?ap3 ?ap4 ?ape ?aps ?ap5 ?ap6; (case' ap1 => assumption); (case' ap2 => rfl); (case' ap3 => rfl); (case' ap4 => decide +kernel); (case' ape => wtm_at "ev"); (case' aps => try (wtm_at "sz")); (case' ap5 => decide +kernel); (case' ap6 => decide +kernel))
  | ((with_reducible show S1 _ _ (.Expr (.Call (.Attribute (.Name "x" _) _ _) _ _ _) _) _); refine' appF ?ap1 1 ?ap2 ?ap3 ?ap4 ?ape ?aps ?ap5 ?ap6; (case' ap1 => assumption); (case' ap2 => rfl); (case' ap3 => rfl); (case' ap4 => decide +kernel); (case' ape => wtm_at "ev"); (case' aps => try (wtm_at "sz")); (case' ap5 => decide +kernel); (case' ap6 => decide +kernel)))
local macro_rules | `(tactic| wtm_at "put") => `(tactic| first
  | ((with_reducible show S1 _ _ (.Assign [.Subscript (.Name "many" _) _ _] _ _) _); refine' putF ?pu1 0 ?pu2 ?pu3 ?pu4 ?pue ?pui ?pu5 ?pu6 ?pu7 ?pu8; (case' pu1 => assumption); (case' pu2 => rfl); (case' pu3 => rfl); (case' pu4 => decide +kernel); (case' pue => wtm_at "ev"); (case' pui => wtm_at "ev"); (case' pu5 => try (wtm_at "sd")); (case' pu6 => try (wtm_at "sd")); (case' pu7 => decide +kernel); (case' pu8 => decide +kernel))
  | ((with_reducible show S1 _ _ (.Assign [.Subscript (.Name "x" _) _ _] _ _) _); refine' putF ?pu1 1 ?pu2 ?pu3 ?pu4 ?pue ?pui ?pu5 ?pu6 ?pu7 ?pu8; (case' pu1 => assumption); (case' pu2 => rfl); (case' pu3 => rfl); (case' pu4 => decide +kernel); (case' pue => wtm_at "ev"); (case' pui => wtm_at "ev"); (case' pu5 => try (wtm_at "sd")); (case' pu6 => try (wtm_at "sd")); (case' pu7 => decide +kernel); (case' pu8 => decide +kernel)))
local macro_rules | `(tactic| wtm_at "reto") => `(tactic| first
  | ((with_reducible show S1 _ _ (.Return (some (.Name "many" _)) _) _); exact retOF (by assumption) 0 (by rfl) rfl (by decide +kernel) (by decide +kernel) (by decide +kernel))
  | ((with_reducible show S1 _ _ (.Return (some (.Name "x" _)) _) _); exact retOF (by assumption) 1 (by rfl) rfl (by decide +kernel) (by decide +kernel) (by decide +kernel)))
local macro_rules | `(tactic| wtm_at "tgt") => `(tactic| first
  | ((with_reducible show PG _ (.Name "many" _) _); exact tgF (by assumption) (by assumption) 0 (by rfl) (by decide +kernel))
  | ((with_reducible show PG _ (.Name "x" _) _); exact tgF (by assumption) (by assumption) 1 (by rfl) (by decide +kernel)))
theorem ok_box {f : Addr} {fd : FuncData} (F : Fun K "box_form" "box_form" s_box_form f fd) (hm : mg "box_form" = some (.ref f)) (b : Binds K fd ["many", "x"] []) (mt : mg "tuple" = none) (mi : mg "int" = none) (mr : mg "range" = none) : Fn P w K mg base 1 "box_form" ["many", "x"] rBox := by
  refine fnF F hm b sc_box_form (fun ds r h => by cases h; rfl) fun X hX hT ds r h => ?_
  cases h with
  | @mk n x hn =>
    refine' sm_end (s1_retE ?e1 ?e2)
    case' e1 =>
      refine' tupleF hX ?g mt (evs_new ?a)
      case' g => decide +kernel
      case' a =>
        refine' lcF hX 2 (List.range (n + 1)) (fun k : Nat => .int k) (fun k : Nat => .int (if decide ((k : Int) = x) then 1 else 0)) ?i ?sr ?ok ?nn ?lx ?zz ?jj fun Y hY z hz => ?e3
        case' i => wtm_at "iter"
        case' sr => rfl
        case' ok => decide +kernel
        case' nn => rfl
        case' lx => decide +kernel
        case' zz => wtm_at "sz"
        case' jj => rfl
        case' e3 => wtm_at "ev"
    case e2 => simp [boxForm, tI]
inductive rIdle : List PyData → Res → Prop
  | mk {n : Nat} (h : n ≤ 100) : rIdle [.int n] (.ok (.dat (tT (idle n))))
local macro_rules | `(tactic| wtm_at "nm") => `(tactic| first
  | ((with_reducible show Ev _ _ (.Name "many" _) _); exact nmF (by assumption) 0 (by rfl) rfl (by decide +kernel) (by decide +kernel) (by decide +kernel))
  | ((with_reducible show Ev _ _ (.Name "x" _) _); exact nmF (by assumption) 1 (by rfl) rfl (by decide +kernel) (by decide +kernel) (by decide +kernel)))
local macro_rules | `(tactic| wtm_at "own") => `(tactic| first
  | ((with_reducible show EvS _ _ (.Name "many" _) _ _); exact ownF (by assumption) 0 (by rfl) rfl (by decide +kernel) (by decide +kernel) (by decide +kernel))
  | ((with_reducible show EvS _ _ (.Name "x" _) _ _); exact ownF (by assumption) 1 (by rfl) rfl (by decide +kernel) (by decide +kernel) (by decide +kernel)))
local macro_rules | `(tactic| wtm_at "ownl") => `(tactic| first
  | ((with_reducible show EvL _ _ (.Name "many" _) _); exact ownlF (by assumption) 0 (by rfl) rfl (by decide +kernel) (by decide +kernel) (by decide +kernel))
  | ((with_reducible show EvL _ _ (.Name "x" _) _); exact ownlF (by assumption) 1 (by rfl) rfl (by decide +kernel) (by decide +kernel) (by decide +kernel)))
local macro_rules | `(tactic| wtm_at "set") => `(tactic| first
  | ((with_reducible show S1 _ _ (.Assign [.Name "many" _] _ _) _); refine' setF ?st1 ?st2 0 ?st3 ?st4 ?ste ?st5; (case' st1 => assumption); (case' st2 => assumption); (case' st3 => rfl); (case' st4 => decide +kernel); (case' ste => wtm_at "ev"); (case' st5 => rfl)))
local macro_rules | `(tactic| wtm_at "app") => `(tactic| first
  | ((with_reducible show S1 _ _ (.Expr (.Call (.Attribute (.Name "many" _) _ _) _ _ _) _) _); refine' appF ?ap1 0 ?ap2 ?ap3 ?ap4 ?ape ?aps ?ap5 ?ap6; (case' ap1 => assumption); (case' ap2 => rfl); (case' ap3 => rfl); (case' ap4 => decide +kernel); (case' ape => wtm_at "ev"); (case' aps => try (wtm_at "sz")); (case' ap5 => decide +kernel); (case' ap6 => decide +kernel)))
local macro_rules | `(tactic| wtm_at "put") => `(tactic| first
  | ((with_reducible show S1 _ _ (.Assign [.Subscript (.Name "many" _) _ _] _ _) _); refine' putF ?pu1 0 ?pu2 ?pu3 ?pu4 ?pue ?pui ?pu5 ?pu6 ?pu7 ?pu8; (case' pu1 => assumption); (case' pu2 => rfl); (case' pu3 => rfl); (case' pu4 => decide +kernel); (case' pue => wtm_at "ev"); (case' pui => wtm_at "ev"); (case' pu5 => try (wtm_at "sd")); (case' pu6 => try (wtm_at "sd")); (case' pu7 => decide +kernel); (case' pu8 => decide +kernel)))
local macro_rules | `(tactic| wtm_at "reto") => `(tactic| first
  | ((with_reducible show S1 _ _ (.Return (some (.Name "many" _)) _) _); exact retOF (by assumption) 0 (by rfl) rfl (by decide +kernel) (by decide +kernel) (by decide +kernel)))
local macro_rules | `(tactic| wtm_at "tgt") => `(tactic| first
  | ((with_reducible show PG _ (.Name "many" _) _); exact tgF (by assumption) (by assumption) 0 (by rfl) (by decide +kernel)))
theorem ok_idle {f : Addr} {fd : FuncData} (F : Fun K "idle" "idle" s_idle f fd) (hm : mg "idle" = some (.ref f)) (b : Binds K fd ["many"] []) (mt : mg "tuple" = none) (mr : mg "range" = none) (Gb : Fn P w K mg base 1 "box_form" ["many", "x"] rBox) : Fn P w K mg base 2 "idle" ["many"] rIdle := by
  refine fnF F hm b sc_idle (fun ds r h => by cases h; rfl) fun X hX hT ds r h => ?_
  cases h with
  | @mk n hn =>
    refine' sm_end (s1_retE ?e1 ?e2)
    case' e1 =>
      refine' tupleF hX ?g mt (evs_new ?a)
      case' g => decide +kernel
      case' a =>
        refine' lcF hX 1 (List.range n) (fun k : Nat => .int k) (fun k : Nat => tI (boxForm n k)) ?i ?sr ?ok ?nn ?lx ?zz ?jj fun Y hY z hz => ?e3
        case' i => wtm_at "iter"
        case' sr => rfl
        case' ok => decide +kernel
        case' nn => rfl
        case' lx => decide +kernel
        case' zz => wtm_at "sz"
        case' jj => rfl
        case' e3 => wtm_at "ev"
    case e2 => simp [idle, tT]
def setting (n : Nat) (x : Nat) (f : List Int) : List (List Int) := (idle n).set x f
inductive rSetting : List PyData → Res → Prop
  | mk {n x : Nat} {f : List Int} (h : n ≤ 100) (hx : x < n) : rSetting [.int n, .int x, tI f] (.ok (.dat (tT (setting n x f))))
local macro_rules | `(tactic| wtm_at "nm") => `(tactic| first
  | ((with_reducible show Ev _ _ (.Name "many" _) _); exact nmF (by assumption) 0 (by rfl) rfl (by decide +kernel) (by decide +kernel) (by decide +kernel))
  | ((with_reducible show Ev _ _ (.Name "x" _) _); exact nmF (by assumption) 1 (by rfl) rfl (by decide +kernel) (by decide +kernel) (by decide +kernel))
  | ((with_reducible show Ev _ _ (.Name "form" _) _); exact nmF (by assumption) 2 (by rfl) rfl (by decide +kernel) (by decide +kernel) (by decide +kernel))
  | ((with_reducible show Ev _ _ (.Name "found" _) _); exact nmF (by assumption) 3 (by rfl) rfl (by decide +kernel) (by decide +kernel) (by decide +kernel)))
local macro_rules | `(tactic| wtm_at "own") => `(tactic| first
  | ((with_reducible show EvS _ _ (.Name "many" _) _ _); exact ownF (by assumption) 0 (by rfl) rfl (by decide +kernel) (by decide +kernel) (by decide +kernel))
  | ((with_reducible show EvS _ _ (.Name "x" _) _ _); exact ownF (by assumption) 1 (by rfl) rfl (by decide +kernel) (by decide +kernel) (by decide +kernel))
  | ((with_reducible show EvS _ _ (.Name "form" _) _ _); exact ownF (by assumption) 2 (by rfl) rfl (by decide +kernel) (by decide +kernel) (by decide +kernel))
  | ((with_reducible show EvS _ _ (.Name "found" _) _ _); exact ownF (by assumption) 3 (by rfl) rfl (by decide +kernel) (by decide +kernel) (by decide +kernel)))
local macro_rules | `(tactic| wtm_at "ownl") => `(tactic| first
  | ((with_reducible show EvL _ _ (.Name "many" _) _); exact ownlF (by assumption) 0 (by rfl) rfl (by decide +kernel) (by decide +kernel) (by decide +kernel))
  | ((with_reducible show EvL _ _ (.Name "x" _) _); exact ownlF (by assumption) 1 (by rfl) rfl (by decide +kernel) (by decide +kernel) (by decide +kernel))
  | ((with_reducible show EvL _ _ (.Name "form" _) _); exact ownlF (by assumption) 2 (by rfl) rfl (by decide +kernel) (by decide +kernel) (by decide +kernel))
  | ((with_reducible show EvL _ _ (.Name "found" _) _); exact ownlF (by assumption) 3 (by rfl) rfl (by decide +kernel) (by decide +kernel) (by decide +kernel)))
local macro_rules | `(tactic| wtm_at "set") => `(tactic| first
  | ((with_reducible show S1 _ _ (.Assign [.Name "many" _] _ _) _); refine' setF ?st1 ?st2 0 ?st3 ?st4 ?ste ?st5; (case' st1 => assumption); (case' st2 => assumption); (case' st3 => rfl); (case' st4 => decide +kernel); (case' ste => wtm_at "ev"); (case' st5 => rfl))
  | ((with_reducible show S1 _ _ (.Assign [.Name "x" _] _ _) _); refine' setF ?st1 ?st2 1 ?st3 ?st4 ?ste ?st5; (case' st1 => assumption); (case' st2 => assumption); (case' st3 => rfl); (case' st4 => decide +kernel); (case' ste => wtm_at "ev"); (case' st5 => rfl))
  | ((with_reducible show S1 _ _ (.Assign [.Name "form" _] _ _) _); refine' setF ?st1 ?st2 2 ?st3 ?st4 ?ste ?st5; (case' st1 => assumption); (case' st2 => assumption); (case' st3 => rfl); (case' st4 => decide +kernel); (case' ste => wtm_at "ev"); (case' st5 => rfl))
  | ((with_reducible show S1 _ _ (.Assign [.Name "found" _] _ _) _); refine' setF ?st1 ?st2 3 ?st3 ?st4 ?ste ?st5; (case' st1 => assumption); (case' st2 => assumption); (case' st3 => rfl); (case' st4 => decide +kernel); (case' ste => wtm_at "ev"); (case' st5 => rfl)))
local macro_rules | `(tactic| wtm_at "app") => `(tactic| first
  | ((with_reducible show S1 _ _ (.Expr (.Call (.Attribute (.Name "many" _) _ _) _ _ _) _) _); refine' appF ?ap1 0 ?ap2 ?ap3 ?ap4 ?ape ?aps ?ap5 ?ap6; (case' ap1 => assumption); (case' ap2 => rfl); (case' ap3 => rfl); (case' ap4 => decide +kernel); (case' ape => wtm_at "ev"); (case' aps => try (wtm_at "sz")); (case' ap5 => decide +kernel); (case' ap6 => decide +kernel))
  | ((with_reducible show S1 _ _ (.Expr (.Call (.Attribute (.Name "x" _) _ _) _ _ _) _) _); refine' appF ?ap1 1 ?ap2 ?ap3 ?ap4 ?ape ?aps ?ap5 ?ap6; (case' ap1 => assumption); (case' ap2 => rfl); (case' ap3 => rfl); (case' ap4 => decide +kernel); (case' ape => wtm_at "ev"); (case' aps => try (wtm_at "sz")); (case' ap5 => decide +kernel); (case' ap6 => decide +kernel))
  | ((with_reducible show S1 _ _ (.Expr (.Call (.Attribute (.Name "form" _) _ _) _ _ _) _) _); refine' appF ?ap1 2 ?ap2 ?ap3 ?ap4 ?ape ?aps ?ap5 ?ap6; (case' ap1 => assumption); (case' ap2 => rfl); (case' ap3 => rfl); (case' ap4 => decide +kernel); (case' ape => wtm_at "ev"); (case' aps => try (wtm_at "sz")); (case' ap5 => decide +kernel); (case' ap6 => decide +kernel))
  | ((with_reducible show S1 _ _ (.Expr (.Call (.Attribute (.Name "found" _) _ _) _ _ _) _) _); refine' appF ?ap1 3 ?ap2 ?ap3 ?ap4 ?ape ?aps ?ap5 ?ap6; (case' ap1 => assumption); (case' ap2 => rfl); (case' ap3 => rfl); (case' ap4 => decide +kernel); (case' ape => wtm_at "ev"); (case' aps => try (wtm_at "sz")); (case' ap5 => decide +kernel); (case' ap6 => decide +kernel)))
local macro_rules | `(tactic| wtm_at "put") => `(tactic| first
  | ((with_reducible show S1 _ _ (.Assign [.Subscript (.Name "many" _) _ _] _ _) _); refine' putF ?pu1 0 ?pu2 ?pu3 ?pu4 ?pue ?pui ?pu5 ?pu6 ?pu7 ?pu8; (case' pu1 => assumption); (case' pu2 => rfl); (case' pu3 => rfl); (case' pu4 => decide +kernel); (case' pue => wtm_at "ev"); (case' pui => wtm_at "ev"); (case' pu5 => try (wtm_at "sd")); (case' pu6 => try (wtm_at "sd")); (case' pu7 => decide +kernel); (case' pu8 => decide +kernel))
  | ((with_reducible show S1 _ _ (.Assign [.Subscript (.Name "x" _) _ _] _ _) _); refine' putF ?pu1 1 ?pu2 ?pu3 ?pu4 ?pue ?pui ?pu5 ?pu6 ?pu7 ?pu8; (case' pu1 => assumption); (case' pu2 => rfl); (case' pu3 => rfl); (case' pu4 => decide +kernel); (case' pue => wtm_at "ev"); (case' pui => wtm_at "ev"); (case' pu5 => try (wtm_at "sd")); (case' pu6 => try (wtm_at "sd")); (case' pu7 => decide +kernel); (case' pu8 => decide +kernel))
  | ((with_reducible show S1 _ _ (.Assign [.Subscript (.Name "form" _) _ _] _ _) _); refine' putF ?pu1 2 ?pu2 ?pu3 ?pu4 ?pue ?pui ?pu5 ?pu6 ?pu7 ?pu8; (case' pu1 => assumption); (case' pu2 => rfl); (case' pu3 => rfl); (case' pu4 => decide +kernel); (case' pue => wtm_at "ev"); (case' pui => wtm_at "ev"); (case' pu5 => try (wtm_at "sd")); (case' pu6 => try (wtm_at "sd")); (case' pu7 => decide +kernel); (case' pu8 => decide +kernel))
  | ((with_reducible show S1 _ _ (.Assign [.Subscript (.Name "found" _) _ _] _ _) _); refine' putF ?pu1 3 ?pu2 ?pu3 ?pu4 ?pue ?pui ?pu5 ?pu6 ?pu7 ?pu8; (case' pu1 => assumption); (case' pu2 => rfl); (case' pu3 => rfl); (case' pu4 => decide +kernel); (case' pue => wtm_at "ev"); (case' pui => wtm_at "ev"); (case' pu5 => try (wtm_at "sd")); (case' pu6 => try (wtm_at "sd")); (case' pu7 => decide +kernel); (case' pu8 => decide +kernel)))
local macro_rules | `(tactic| wtm_at "reto") => `(tactic| first
  | ((with_reducible show S1 _ _ (.Return (some (.Name "many" _)) _) _); exact retOF (by assumption) 0 (by rfl) rfl (by decide +kernel) (by decide +kernel) (by decide +kernel))
  | ((with_reducible show S1 _ _ (.Return (some (.Name "x" _)) _) _); exact retOF (by assumption) 1 (by rfl) rfl (by decide +kernel) (by decide +kernel) (by decide +kernel))
  | ((with_reducible show S1 _ _ (.Return (some (.Name "form" _)) _) _); exact retOF (by assumption) 2 (by rfl) rfl (by decide +kernel) (by decide +kernel) (by decide +kernel))
  | ((with_reducible show S1 _ _ (.Return (some (.Name "found" _)) _) _); exact retOF (by assumption) 3 (by rfl) rfl (by decide +kernel) (by decide +kernel) (by decide +kernel)))
local macro_rules | `(tactic| wtm_at "tgt") => `(tactic| first
  | ((with_reducible show PG _ (.Name "many" _) _); exact tgF (by assumption) (by assumption) 0 (by rfl) (by decide +kernel))
  | ((with_reducible show PG _ (.Name "x" _) _); exact tgF (by assumption) (by assumption) 1 (by rfl) (by decide +kernel))
  | ((with_reducible show PG _ (.Name "form" _) _); exact tgF (by assumption) (by assumption) 2 (by rfl) (by decide +kernel))
  | ((with_reducible show PG _ (.Name "found" _) _); exact tgF (by assumption) (by assumption) 3 (by rfl) (by decide +kernel)))
theorem ok_setting {f : Addr} {fd : FuncData} (F : Fun K "setting" "setting" s_setting f fd) (hm : mg "setting" = some (.ref f)) (b : Binds K fd ["many", "x", "form"] []) (mt : mg "tuple" = none) (ml : mg "list" = none) (Gi : Fn P w K mg base 2 "idle" ["many"] rIdle) : Fn P w K mg base 3 "setting" ["many", "x", "form"] rSetting := by
  refine fnF F hm b sc_setting (fun ds r h => by cases h; rfl) fun X hX hT ds r h => ?_
  cases h with
  | @mk n x g hn hx =>
    have il := idle_len n
    refine' sm_cons ?s1 ?_
    case' s1 => wtm_at "st"
    refine' sm_cons ?s2 ?_
    case' s2 => wtm_at "st"
    refine' sm_end (s1_retE ?e1 ?e2)
    case' e1 => wtm_at "ev"
    case e2 => simp [setting, tT, List.map_set]
def rowAt (P : Int) (one : List (List Int)) (f : List Int) (i : Nat) : Nat → Int
  | 0 => if i = one.length then f.getD one.length 0 else 0
  | k + 1 => (rowAt P one f i k + f.getD k 0 * (one.getD k []).getD i 0) % P
def rowK (P : Int) (one : List (List Int)) (f : List Int) (k : Nat) : List Int := (List.range (one.length + 1)).map fun i => rowAt P one f i k
def formBehind (P : Int) (one : List (List Int)) (f : List Int) : List Int := rowK P one f one.length
/-- in the midst of a turn -/
def rowM (P : Int) (one : List (List Int)) (f : List Int) (k m : Nat) : List Int := (List.range (one.length + 1)).map fun i => if i < m then rowAt P one f i (k + 1) else rowAt P one f i k
theorem rowM_zero (P : Int) (one : List (List Int)) (f : List Int) (k : Nat) : rowM P one f k 0 = rowK P one f k := by simp [rowM, rowK]
theorem rowM_all (P : Int) (one : List (List Int)) (f : List Int) (k : Nat) : rowM P one f k (one.length + 1) = rowK P one f (k + 1) := by
  unfold rowM rowK
  refine List.map_congr_left fun i hi => ?_
  rw [if_pos (List.mem_range.mp hi)]
theorem rowM_len (P : Int) (one : List (List Int)) (f : List Int) (k m : Nat) : (rowM P one f k m).length = one.length + 1 := by simp [rowM]
theorem rowM_get {P : Int} {one : List (List Int)} {f : List Int} {k m : Nat} (h : m < one.length + 1) : (rowM P one f k m).getD m 0 = rowAt P one f m k := by
  unfold rowM
  rw [List.getD_eq_getElem?_getD, List.getElem?_map, List.getElem?_range h]
  simp
theorem rowM_set {P : Int} {one : List (List Int)} {f : List Int} {k m : Nat} : (rowM P one f k m).set m (rowAt P one f m (k + 1)) = rowM P one f k (m + 1) := by
  unfold rowM
  apply List.ext_getElem?
  intro j
  rw [List.getElem?_set]
  simp only [List.length_map, List.length_range, List.getElem?_map]
  by_cases hj : j < one.length + 1
  · rw [List.getElem?_range hj]
    by_cases hm : m = j
    · subst hm
      simp [hj]
    · rw [if_neg hm]
      simp only [Option.map_some]
      congr 1
      by_cases h1 : j < m
      · rw [if_pos h1, if_pos (by omega)]
      · rw [if_neg h1, if_neg (by omega)]
  · rw [List.getElem?_eq_none (by simpa using hj)]
    split
    · rw [if_neg (by omega)]; rfl
    · rfl
theorem rowK_zero (P : Int) (one : List (List Int)) (f : List Int) : rowK P one f 0 = List.replicate one.length 0 ++ [f.getD one.length 0] := by
  unfold rowK
  rw [List.range_succ, List.map_append]
  congr 1
  · apply List.ext_getElem?
    intro j
    by_cases hj : j < one.length
    · rw [List.getElem?_map, List.getElem?_range hj, List.getElem?_replicate, if_pos hj]
      simp [rowAt]; omega
    · rw [List.getElem?_eq_none (by simpa using hj), List.getElem?_eq_none (by simpa using hj)]
  · simp [rowAt]
inductive rBehind : List PyData → Res → Prop
  | mk {P : Int} {one : List (List Int)} {f : List Int} (h : 0 < P) (hn : one.length ≤ 100) (h1 : ∀ g ∈ one, Frm one.length g) (hf : Frm one.length f) : rBehind [.int P, tT one, tI f] (.ok (.dat (tI (formBehind P one f))))
local macro_rules | `(tactic| wtm_at "nm") => `(tactic| first
  | ((with_reducible show Ev _ _ (.Name "P" _) _); exact nmF (by assumption) 0 (by rfl) rfl (by decide +kernel) (by decide +kernel) (by decide +kernel))
  | ((with_reducible show Ev _ _ (.Name "one" _) _); exact nmF (by assumption) 1 (by rfl) rfl (by decide +kernel) (by decide +kernel) (by decide +kernel))
  | ((with_reducible show Ev _ _ (.Name "form" _) _); exact nmF (by assumption) 2 (by rfl) rfl (by decide +kernel) (by decide +kernel) (by decide +kernel))
  | ((with_reducible show Ev _ _ (.Name "many" _) _); exact nmF (by assumption) 3 (by rfl) rfl (by decide +kernel) (by decide +kernel) (by decide +kernel))
  | ((with_reducible show Ev _ _ (.Name "row" _) _); exact nmF (by assumption) 4 (by rfl) rfl (by decide +kernel) (by decide +kernel) (by decide +kernel))
  | ((with_reducible show Ev _ _ (.Name "k" _) _); exact nmF (by assumption) 5 (by rfl) rfl (by decide +kernel) (by decide +kernel) (by decide +kernel))
  | ((with_reducible show Ev _ _ (.Name "at" _) _); exact nmF (by assumption) 6 (by rfl) rfl (by decide +kernel) (by decide +kernel) (by decide +kernel)))
local macro_rules | `(tactic| wtm_at "own") => `(tactic| first
  | ((with_reducible show EvS _ _ (.Name "P" _) _ _); exact ownF (by assumption) 0 (by rfl) rfl (by decide +kernel) (by decide +kernel) (by decide +kernel))
  | ((with_reducible show EvS _ _ (.Name "one" _) _ _); exact ownF (by assumption) 1 (by rfl) rfl (by decide +kernel) (by decide +kernel) (by decide +kernel))
  | ((with_reducible show EvS _ _ (.Name "form" _) _ _); exact ownF (by assumption) 2 (by rfl) rfl (by decide +kernel) (by decide +kernel) (by decide +kernel))
  | ((with_reducible show EvS _ _ (.Name "many" _) _ _); exact ownF (by assumption) 3 (by rfl) rfl (by decide +kernel) (by decide +kernel) (by decide +kernel))
  | ((with_reducible show EvS _ _ (.Name "row" _) _ _); exact ownF (by assumption) 4 (by rfl) rfl (by decide +kernel) (by decide +kernel) (by decide +kernel))
  | ((with_reducible show EvS _ _ (.Name "k" _) _ _); exact ownF (by assumption) 5 (by rfl) rfl (by decide +kernel) (by decide +kernel) (by decide +kernel))
  | ((with_reducible show EvS _ _ (.Name "at" _) _ _); exact ownF (by assumption) 6 (by rfl) rfl (by decide +kernel) (by decide +kernel) (by decide +kernel)))
local macro_rules | `(tactic| wtm_at "ownl") => `(tactic| first
  | ((with_reducible show EvL _ _ (.Name "P" _) _); exact ownlF (by assumption) 0 (by rfl) rfl (by decide +kernel) (by decide +kernel) (by decide +kernel))
  | ((with_reducible show EvL _ _ (.Name "one" _) _); exact ownlF (by assumption) 1 (by rfl) rfl (by decide +kernel) (by decide +kernel) (by decide +kernel))
  | ((with_reducible show EvL _ _ (.Name "form" _) _); exact ownlF (by assumption) 2 (by rfl) rfl (by decide +kernel) (by decide +kernel) (by decide +kernel))
  | ((with_reducible show EvL _ _ (.Name "many" _) _); exact ownlF (by assumption) 3 (by rfl) rfl (by decide +kernel) (by decide +kernel) (by decide +kernel))
  | ((with_reducible show EvL _ _ (.Name "row" _) _); exact ownlF (by assumption) 4 (by rfl) rfl (by decide +kernel) (by decide +kernel) (by decide +kernel))
  | ((with_reducible show EvL _ _ (.Name "k" _) _); exact ownlF (by assumption) 5 (by rfl) rfl (by decide +kernel) (by decide +kernel) (by decide +kernel))
  | ((with_reducible show EvL _ _ (.Name "at" _) _); exact ownlF (by assumption) 6 (by rfl) rfl (by decide +kernel) (by decide +kernel) (by decide +kernel)))
local macro_rules | `(tactic| wtm_at "set") => `(tactic| first
  | ((with_reducible show S1 _ _ (.Assign [.Name "P" _] _ _) _); refine' setF ?st1 ?st2 0 ?st3 ?st4 ?ste ?st5; (case' st1 => assumption); (case' st2 => assumption); (case' st3 => rfl); (case' st4 => decide +kernel); (case' ste => wtm_at "ev"); (case' st5 => rfl))
  | ((with_reducible show S1 _ _ (.Assign [.Name "one" _] _ _) _); refine' setF ?st1 ?st2 1 ?st3 ?st4 ?ste ?st5; (case' st1 => assumption); (case' st2 => assumption); (case' st3 => rfl); (case' st4 => decide +kernel); (case' ste => wtm_at "ev"); (case' st5 => rfl))
  | ((with_reducible show S1 _ _ (.Assign [.Name "form" _] _ _) _); refine' setF ?st1 ?st2 2 ?st3 ?st4 ?ste ?st5; (case' st1 => assumption); (case' st2 => assumption); (case' st3 => rfl); (case' st4 => decide +kernel); (case' ste => wtm_at "ev"); (case' st5 => rfl))
  | ((with_reducible show S1 _ _ (.Assign [.Name "many" _] _ _) _); refine' setF ?st1 ?st2 3 ?st3 ?st4 ?ste ?st5; (case' st1 => assumption); (case' st2 => assumption); (case' st3 => rfl); (case' st4 => decide +kernel); (case' ste => wtm_at "ev"); (case' st5 => rfl))
  | ((with_reducible show S1 _ _ (.Assign [.Name "row" _] _ _) _); refine' setF ?st1 ?st2 4 ?st3 ?st4 ?ste ?st5; (case' st1 => assumption); (case' st2 => assumption); (case' st3 => rfl); (case' st4 => decide +kernel); (case' ste => wtm_at "ev"); (case' st5 => rfl))
  | ((with_reducible show S1 _ _ (.Assign [.Name "k" _] _ _) _); refine' setF ?st1 ?st2 5 ?st3 ?st4 ?ste ?st5; (case' st1 => assumption); (case' st2 => assumption); (case' st3 => rfl); (case' st4 => decide +kernel); (case' ste => wtm_at "ev"); (case' st5 => rfl))
  | ((with_reducible show S1 _ _ (.Assign [.Name "at" _] _ _) _); refine' setF ?st1 ?st2 6 ?st3 ?st4 ?ste ?st5; (case' st1 => assumption); (case' st2 => assumption); (case' st3 => rfl); (case' st4 => decide +kernel); (case' ste => wtm_at "ev"); (case' st5 => rfl)))
local macro_rules | `(tactic| wtm_at "app") => `(tactic| first
  | ((with_reducible show S1 _ _ (.Expr (.Call (.Attribute (.Name "P" _) _ _) _ _ _) _) _); refine' appF ?ap1 0 ?ap2 ?ap3 ?ap4 ?ape ?aps ?ap5 ?ap6; (case' ap1 => assumption); (case' ap2 => rfl); (case' ap3 => rfl); (case' ap4 => decide +kernel); (case' ape => wtm_at "ev"); (case' aps => try (wtm_at "sz")); (case' ap5 => decide +kernel); (case' ap6 => decide +kernel))
  | ((with_reducible show S1 _ _ (.Expr (.Call (.Attribute (.Name "one" _) _ _) _ _ _) _) _); refine' appF ?ap1 1 ?ap2 ?ap3 ?ap4 ?ape ?aps ?ap5 ?ap6; (case' ap1 => assumption); (case' ap2 => rfl); (case' ap3 => rfl); (case' ap4 => decide +kernel); (case' ape => wtm_at "ev"); (case' aps => try (wtm_at "sz")); (case' ap5 => decide +kernel); (case' ap6 => decide +kernel))
  | ((with_reducible show S1 _ _ (.Expr (.Call (.Attribute (.Name "form" _) _ _) _ _ _) _) _); refine' appF ?ap1 2 ?ap2 ?ap3 ?ap4 ?ape ?aps ?ap5 ?ap6; (case' ap1 => assumption); (case' ap2 => rfl); (case' ap3 => rfl); (case' ap4 => decide +kernel); (case' ape => wtm_at "ev"); (case' aps => try (wtm_at "sz")); (case' ap5 => decide +kernel); (case' ap6 => decide +kernel))
  | ((with_reducible show S1 _ _ (.Expr (.Call (.Attribute (.Name "many" _) _ _) _ _ _) _) _); refine' appF ?ap1 3 ?ap2 ?ap3 ?ap4 ?ape ?aps ?ap5 ?ap6; (case' ap1 => assumption); (case' ap2 => rfl); (case' ap3 => rfl); (case' ap4 => decide +kernel); (case' ape => wtm_at "ev"); (case' aps => try (wtm_at "sz")); (case' ap5 => decide +kernel); (case' ap6 => decide +kernel))
  | ((with_reducible show S1 _ _ (.Expr (.Call (.Attribute (.Name "row" _) _ _) _ _ _) _) _); refine' appF ?ap1 4 ?ap2 ?ap3 ?ap4 ?ape ?aps ?ap5 ?ap6; (case' ap1 => assumption); (case' ap2 => rfl); (case' ap3 => rfl); (case' ap4 => decide +kernel); (case' ape => wtm_at "ev"); (case' aps => try (wtm_at "sz")); (case' ap5 => decide +kernel); (case' ap6 => decide +kernel))
  | ((with_reducible show S1 _ _ (.Expr (.Call (.Attribute (.Name "k" _) _ _) _ _ _) _) _); refine' appF ?ap1 5 ?ap2 ?ap3 ?ap4 ?ape ?aps ?ap5 ?ap6; (case' ap1 => assumption); (case' ap2 => rfl); (case' ap3 => rfl); (case' ap4 => decide +kernel); (case' ape => wtm_at "ev"); (case' aps => try (wtm_at "sz")); (case' ap5 => decide +kernel); (case' ap6 => decide +kernel))
  | ((with_reducible show S1 _ _ (.Expr (.Call (.Attribute (.Name "at" _) _ _) _ _ _) _) _); refine' appF ?ap1 6 ?ap2 ?ap3 ?ap4 ?ape ?aps ?ap5 ?ap6; (case' ap1 => assumption); (case' ap2 => rfl); (case' ap3 => rfl); (case' ap4 => decide +kernel); (case' ape => wtm_at "ev"); (case' aps => try (wtm_at "sz")); (case' ap5 => decide +kernel); (case' ap6 => decide +kernel)))
local macro_rules | `(tactic| wtm_at "put") => `(tactic| first
  | ((with_reducible show S1 _ _ (.Assign [.Subscript (.Name "P" _) _ _] _ _) _); refine' putF ?pu1 0 ?pu2 ?pu3 ?pu4 ?pue ?pui ?pu5 ?pu6 ?pu7 ?pu8; (case' pu1 => assumption); (case' pu2 => rfl); (case' pu3 => rfl); (case' pu4 => decide +kernel); (case' pue => wtm_at "ev"); (case' pui => wtm_at "ev"); (case' pu5 => try (wtm_at "sd")); (case' pu6 => try (wtm_at "sd")); (case' pu7 => decide +kernel); (case' pu8 => decide +kernel))
  | ((with_reducible show S1 _ _ (.Assign [.Subscript (.Name "one" _) _ _] _ _) _); refine' putF ?pu1 1 ?pu2 ?pu3 ?pu4 ?pue ?pui ?pu5 ?pu6 ?pu7 ?pu8; (case' pu1 => assumption); (case' pu2 => rfl); (case' pu3 => rfl); (case' pu4 => decide +kernel); (case' pue => wtm_at "ev"); (case' pui => wtm_at "ev"); (case' pu5 => try (wtm_at "sd")); (case' pu6 => try (wtm_at "sd")); (case' pu7 => decide +kernel); (case' pu8 => decide +kernel))
  | ((with_reducible show S1 _ _ (.Assign [.Subscript (.Name "form" _) _ _] _ _) _); refine' putF ?pu1 2 ?pu2 ?pu3 ?pu4 ?pue ?pui ?pu5 ?pu6 ?pu7 ?pu8; (case' pu1 => assumption); (case' pu2 => rfl); (case' pu3 => rfl); (case' pu4 => decide +kernel); (case' pue => wtm_at "ev"); (case' pui => wtm_at "ev"); (case' pu5 => try (wtm_at "sd")); (case' pu6 => try (wtm_at "sd")); (case' pu7 => decide +kernel); (case' pu8 => decide +kernel))
  | ((with_reducible show S1 _ _ (.Assign [.Subscript (.Name "many" _) _ _] _ _) _); refine' putF ?pu1 3 ?pu2 ?pu3 ?pu4 ?pue ?pui ?pu5 ?pu6 ?pu7 ?pu8; (case' pu1 => assumption); (case' pu2 => rfl); (case' pu3 => rfl); (case' pu4 => decide +kernel); (case' pue => wtm_at "ev"); (case' pui => wtm_at "ev"); (case' pu5 => try (wtm_at "sd")); (case' pu6 => try (wtm_at "sd")); (case' pu7 => decide +kernel); (case' pu8 => decide +kernel))
  | ((with_reducible show S1 _ _ (.Assign [.Subscript (.Name "row" _) _ _] _ _) _); refine' putF ?pu1 4 ?pu2 ?pu3 ?pu4 ?pue ?pui ?pu5 ?pu6 ?pu7 ?pu8; (case' pu1 => assumption); (case' pu2 => rfl); (case' pu3 => rfl); (case' pu4 => decide +kernel); (case' pue => wtm_at "ev"); (case' pui => wtm_at "ev"); (case' pu5 => try (wtm_at "sd")); (case' pu6 => try (wtm_at "sd")); (case' pu7 => decide +kernel); (case' pu8 => decide +kernel))
  | ((with_reducible show S1 _ _ (.Assign [.Subscript (.Name "k" _) _ _] _ _) _); refine' putF ?pu1 5 ?pu2 ?pu3 ?pu4 ?pue ?pui ?pu5 ?pu6 ?pu7 ?pu8; (case' pu1 => assumption); (case' pu2 => rfl); (case' pu3 => rfl); (case' pu4 => decide +kernel); (case' pue => wtm_at "ev"); (case' pui => wtm_at "ev"); (case' pu5 => try (wtm_at "sd")); (case' pu6 => try (wtm_at "sd")); (case' pu7 => decide +kernel); (case' pu8 => decide +kernel))
  | ((with_reducible show S1 _ _ (.Assign [.Subscript (.Name "at" _) _ _] _ _) _); refine' putF ?pu1 6 ?pu2 ?pu3 ?pu4 ?pue ?pui ?pu5 ?pu6 ?pu7 ?pu8; (case' pu1 => assumption); (case' pu2 => rfl); (case' pu3 => rfl); (case' pu4 => decide +kernel); (case' pue => wtm_at "ev"); (case' pui => wtm_at "ev"); (case' pu5 => try (wtm_at "sd")); (case' pu6 => try (wtm_at "sd")); (case' pu7 => decide +kernel); (case' pu8 => decide +kernel)))
local macro_rules | `(tactic| wtm_at "reto") => `(tactic| first
  | ((with_reducible show S1 _ _ (.Return (some (.Name "P" _)) _) _); exact retOF (by assumption) 0 (by rfl) rfl (by decide +kernel) (by decide +kernel) (by decide +kernel))
  | ((with_reducible show S1 _ _ (.Return (some (.Name "one" _)) _) _); exact retOF (by assumption) 1 (by rfl) rfl (by decide +kernel) (by decide +kernel) (by decide +kernel))
  | ((with_reducible show S1 _ _ (.Return (some (.Name "form" _)) _) _); exact retOF (by assumption) 2 (by rfl) rfl (by decide +kernel) (by decide +kernel) (by decide +kernel))
  | ((with_reducible show S1 _ _ (.Return (some (.Name "many" _)) _) _); exact retOF (by assumption) 3 (by rfl) rfl (by decide +kernel) (by decide +kernel) (by decide +kernel))
  | ((with_reducible show S1 _ _ (.Return (some (.Name "row" _)) _) _); exact retOF (by assumption) 4 (by rfl) rfl (by decide +kernel) (by decide +kernel) (by decide +kernel))
  | ((with_reducible show S1 _ _ (.Return (some (.Name "k" _)) _) _); exact retOF (by assumption) 5 (by rfl) rfl (by decide +kernel) (by decide +kernel) (by decide +kernel))
  | ((with_reducible show S1 _ _ (.Return (some (.Name "at" _)) _) _); exact retOF (by assumption) 6 (by rfl) rfl (by decide +kernel) (by decide +kernel) (by decide +kernel)))
local macro_rules | `(tactic| wtm_at "tgt") => `(tactic| first
  | ((with_reducible show PG _ (.Name "P" _) _); exact tgF (by assumption) (by assumption) 0 (by rfl) (by decide +kernel))
  | ((with_reducible show PG _ (.Name "one" _) _); exact tgF (by assumption) (by assumption) 1 (by rfl) (by decide +kernel))
  | ((with_reducible show PG _ (.Name "form" _) _); exact tgF (by assumption) (by assumption) 2 (by rfl) (by decide +kernel))
  | ((with_reducible show PG _ (.Name "many" _) _); exact tgF (by assumption) (by assumption) 3 (by rfl) (by decide +kernel))
  | ((with_reducible show PG _ (.Name "row" _) _); exact tgF (by assumption) (by assumption) 4 (by rfl) (by decide +kernel))
  | ((with_reducible show PG _ (.Name "k" _) _); exact tgF (by assumption) (by assumption) 5 (by rfl) (by decide +kernel))
  | ((with_reducible show PG _ (.Name "at" _) _); exact tgF (by assumption) (by assumption) 6 (by rfl) (by decide +kernel)))
theorem ok_behind {f : Addr} {fd : FuncData} (F : Fun K "form_behind" "form_behind" s_form_behind f fd) (hm : mg "form_behind" = some (.ref f)) (b : Binds K fd ["P", "one", "form"] []) (mt : mg "tuple" = none) (ml : mg "len" = none) (mr : mg "range" = none) (Gon : Fn P w K mg base 1 "on" ["P", "n"] rOn) :
    Fn P w K mg base 2 "form_behind" ["P", "one", "form"] rBehind := by
  refine fnF F hm b sc_form_behind (fun ds r h => by cases h; rfl) fun X hX hT ds r h => ?_
  cases h with
  | @mk p one g hp hn h1 hg =>
    have hg1 := hg.1
    refine' sm_cons ?s1 ?_
    case' s1 => wtm_at "st"
    have el : ((List.map tI one).length : Int) = (one.length : Int) := by simp
    rw [el]
    refine' sm_cons ?s2 ?_
    case' s2 => wtm_at "st"
    refine' sm_cons ?s3 ?_
    case' s3 =>
      refine' forR0 hX (n := one.length) 5 (fun k => [.dat (.int p), .dat (tT one), .dat (tI g), .dat (.int one.length), .own (.lst ((rowK p one g k).map .int)), .un, .un]) ?i ?sr ?g ?l (fun _ => rfl) (fun k hk => ?b3)
      case' i => wtm_at "iter"
      case' sr => rfl
      case' g => wtm_at "tgt"
      case' l => wtm_at "le"
      case l => rw [rowK_zero]; simp
      have hok : Frm one.length (one.getD k []) := h1 _ (getD_mem hk)
      have hok1 := hok.1
      refine' sm_le (sm_one ?s4) ?l4
      case' s4 =>
        refine' forR0 hX (n := one.length + 1) 6 (fun m => [.dat (.int p), .dat (tT one), .dat (tI g), .dat (.int one.length), .own (.lst ((rowM p one g k m).map .int)), .dat (.int k), .un]) ?i5 ?sr5 ?g5 ?l5 (fun _ => rfl) (fun m hm => ?b5)
        case' i5 => wtm_at "iter"
        case' sr5 => rfl
        case' g5 => wtm_at "tgt"
        case' l5 => rw [rowM_zero]; wtm_at "le"
        have hl := rowM_len p one g k m
        have hmul : CMul (g.getD k 0) ((one.getD k []).getD m 0) := .inl (by have := hg.2 _ (getD_mem (z := 0) (show k < g.length by omega)); omega)
        refine' sm_le (sm_one ?s6) ?l6
        case' s6 => wtm_at "st"
        case' l6 =>
          rw [← rowM_set]
          have e6 : rowAt p one g m (k + 1) = ((rowM p one g k m).getD m 0 + g.getD k 0 * (one.getD k []).getD m 0) % p := by rw [rowM_get hm]; rfl
          rw [e6, List.map_set]
          wtm_at "le"
      case' l4 => rw [rowM_all]; wtm_at "le"
    refine' sm_end (s1_retE ?e1 ?e2)
    case' e1 => wtm_at "ev"
    case e2 => rfl
theorem formBehind_len (P : Int) (one : List (List Int)) (f : List Int) : (formBehind P one f).length = one.length + 1 := by simp [formBehind, rowK]
def thenT (P : Int) (one other : List (List Int)) : List (List Int) := other.map fun f => formBehind P one f
inductive rThen : List PyData → Res → Prop
  | mk {P : Int} {one other : List (List Int)} (h : 0 < P) (hn : one.length ≤ 100) (hm : other.length ≤ 100) (h1 : ∀ g ∈ one, Frm one.length g) (h2 : ∀ g ∈ other, Frm one.length g) : rThen [.int P, tT one, tT other] (.ok (.dat (tT (thenT P one other))))
local macro_rules | `(tactic| wtm_at "nm") => `(tactic| first
  | ((with_reducible show Ev _ _ (.Name "P" _) _); exact nmF (by assumption) 0 (by rfl) rfl (by decide +kernel) (by decide +kernel) (by decide +kernel))
  | ((with_reducible show Ev _ _ (.Name "one" _) _); exact nmF (by assumption) 1 (by rfl) rfl (by decide +kernel) (by decide +kernel) (by decide +kernel))
  | ((with_reducible show Ev _ _ (.Name "other" _) _); exact nmF (by assumption) 2 (by rfl) rfl (by decide +kernel) (by decide +kernel) (by decide +kernel))
  | ((with_reducible show Ev _ _ (.Name "form" _) _); exact nmF (by assumption) 3 (by rfl) rfl (by decide +kernel) (by decide +kernel) (by decide +kernel)))
local macro_rules | `(tactic| wtm_at "own") => `(tactic| first
  | ((with_reducible show EvS _ _ (.Name "P" _) _ _); exact ownF (by assumption) 0 (by rfl) rfl (by decide +kernel) (by decide +kernel) (by decide +kernel))
  | ((with_reducible show EvS _ _ (.Name "one" _) _ _); exact ownF (by assumption) 1 (by rfl) rfl (by decide +kernel) (by decide +kernel) (by decide +kernel))
  | ((with_reducible show EvS _ _ (.Name "other" _) _ _); exact ownF (by assumption) 2 (by rfl) rfl (by decide +kernel) (by decide +kernel) (by decide +kernel))
  | ((with_reducible show EvS _ _ (.Name "form" _) _ _); exact ownF (by assumption) 3 (by rfl) rfl (by decide +kernel) (by decide +kernel) (by decide +kernel)))
local macro_rules | `(tactic| wtm_at "ownl") => `(tactic| first
  | ((with_reducible show EvL _ _ (.Name "P" _) _); exact ownlF (by assumption) 0 (by rfl) rfl (by decide +kernel) (by decide +kernel) (by decide +kernel))
  | ((with_reducible show EvL _ _ (.Name "one" _) _); exact ownlF (by assumption) 1 (by rfl) rfl (by decide +kernel) (by decide +kernel) (by decide +kernel))
  | ((with_reducible show EvL _ _ (.Name "other" _) _); exact ownlF (by assumption) 2 (by rfl) rfl (by decide +kernel) (by decide +kernel) (by decide +kernel))
  | ((with_reducible show EvL _ _ (.Name "form" _) _); exact ownlF (by assumption) 3 (by rfl) rfl (by decide +kernel) (by decide +kernel) (by decide +kernel)))
local macro_rules | `(tactic| wtm_at "set") => `(tactic| first
  | ((with_reducible show S1 _ _ (.Assign [.Name "P" _] _ _) _); refine' setF ?st1 ?st2 0 ?st3 ?st4 ?ste ?st5; (case' st1 => assumption); (case' st2 => assumption); (case' st3 => rfl); (case' st4 => decide +kernel); (case' ste => wtm_at "ev"); (case' st5 => rfl))
  | ((with_reducible show S1 _ _ (.Assign [.Name "one" _] _ _) _); refine' setF ?st1 ?st2 1 ?st3 ?st4 ?ste ?st5; (case' st1 => assumption); (case' st2 => assumption); (case' st3 => rfl); (case' st4 => decide +kernel); (case' ste => wtm_at "ev"); (case' st5 => rfl))
  | ((with_reducible show S1 _ _ (.Assign [.Name "other" _] _ _) _); refine' setF ?st1 ?st2 2 ?st3 ?st4 ?ste ?st5; (case' st1 => assumption); (case' st2 => assumption); (case' st3 => rfl); (case' st4 => decide +kernel); (case' ste => wtm_at "ev"); (case' st5 => rfl)))
local macro_rules | `(tactic| wtm_at "app") => `(tactic| first
  | ((with_reducible show S1 _ _ (.Expr (.Call (.Attribute (.Name "P" _) _ _) _ _ _) _) _); refine' appF ?ap1 0 ?ap2 ?ap3 ?ap4 ?ape ?aps ?ap5 ?ap6; (case' ap1 => assumption); (case' ap2 => rfl); (case' ap3 => rfl); (case' ap4 => decide +kernel); (case' ape => wtm_at "ev"); (case' aps => try (wtm_at "sz")); (case' ap5 => decide +kernel); (case' ap6 => decide +kernel))
  | ((with_reducible show S1 _ _ (.Expr (.Call (.Attribute (.Name "one" _) _ _) _ _ _) _) _); refine' appF ?ap1 1 ?ap2 ?ap3 ?ap4 ?ape ?aps ?ap5 ?ap6; (case' ap1 => assumption); (case' ap2 => rfl); (case' ap3 => rfl); (case' ap4 => decide +kernel); (case' ape => wtm_at "ev"); (case' aps => try (wtm_at "sz")); (case' ap5 => decide +kernel); (case' ap6 => decide +kernel))
  | ((with_reducible show S1 _ _ (.Expr (.Call (.Attribute (.Name "other" _) _ _) _ _ _) _) _); refine' appF ?ap1 2 ?ap2 ?ap3 ?ap4 ?ape ?aps ?ap5 ?ap6; (case' ap1 => assumption); (case' ap2 => rfl); (case' ap3 => rfl); (case' ap4 => decide +kernel); (case' ape => wtm_at "ev"); (case' aps => try (wtm_at "sz")); (case' ap5 => decide +kernel); (case' ap6 => decide +kernel)))
local macro_rules | `(tactic| wtm_at "put") => `(tactic| first
  | ((with_reducible show S1 _ _ (.Assign [.Subscript (.Name "P" _) _ _] _ _) _); refine' putF ?pu1 0 ?pu2 ?pu3 ?pu4 ?pue ?pui ?pu5 ?pu6 ?pu7 ?pu8; (case' pu1 => assumption); (case' pu2 => rfl); (case' pu3 => rfl); (case' pu4 => decide +kernel); (case' pue => wtm_at "ev"); (case' pui => wtm_at "ev"); (case' pu5 => try (wtm_at "sd")); (case' pu6 => try (wtm_at "sd")); (case' pu7 => decide +kernel); (case' pu8 => decide +kernel))
  | ((with_reducible show S1 _ _ (.Assign [.Subscript (.Name "one" _) _ _] _ _) _); refine' putF ?pu1 1 ?pu2 ?pu3 ?pu4 ?pue ?pui ?pu5 ?pu6 ?pu7 ?pu8; (case' pu1 => assumption); (case' pu2 => rfl); (case' pu3 => rfl); (case' pu4 => decide +kernel); (case' pue => wtm_at "ev"); (case' pui => wtm_at "ev"); (case' pu5 => try (wtm_at "sd")); (case' pu6 => try (wtm_at "sd")); (case' pu7 => decide +kernel); (case' pu8 => decide +kernel))
  | ((with_reducible show S1 _ _ (.Assign [.Subscript (.Name "other" _) _ _] _ _) _); refine' putF ?pu1 2 ?pu2 ?pu3 ?pu4 ?pue ?pui ?pu5 ?pu6 ?pu7 ?pu8; (case' pu1 => assumption); (case' pu2 => rfl); (case' pu3 => rfl); (case' pu4 => decide +kernel); (case' pue => wtm_at "ev"); (case' pui => wtm_at "ev"); (case' pu5 => try (wtm_at "sd")); (case' pu6 => try (wtm_at "sd")); (case' pu7 => decide +kernel); (case' pu8 => decide +kernel)))
local macro_rules | `(tactic| wtm_at "reto") => `(tactic| first
  | ((with_reducible show S1 _ _ (.Return (some (.Name "P" _)) _) _); exact retOF (by assumption) 0 (by rfl) rfl (by decide +kernel) (by decide +kernel) (by decide +kernel))
  | ((with_reducible show S1 _ _ (.Return (some (.Name "one" _)) _) _); exact retOF (by assumption) 1 (by rfl) rfl (by decide +kernel) (by decide +kernel) (by decide +kernel))
  | ((with_reducible show S1 _ _ (.Return (some (.Name "other" _)) _) _); exact retOF (by assumption) 2 (by rfl) rfl (by decide +kernel) (by decide +kernel) (by decide +kernel)))
local macro_rules | `(tactic| wtm_at "tgt") => `(tactic| first
  | ((with_reducible show PG _ (.Name "P" _) _); exact tgF (by assumption) (by assumption) 0 (by rfl) (by decide +kernel))
  | ((with_reducible show PG _ (.Name "one" _) _); exact tgF (by assumption) (by assumption) 1 (by rfl) (by decide +kernel))
  | ((with_reducible show PG _ (.Name "other" _) _); exact tgF (by assumption) (by assumption) 2 (by rfl) (by decide +kernel)))
theorem ok_then {f : Addr} {fd : FuncData} (F : Fun K "then" "then" s_then f fd) (hm : mg "then" = some (.ref f)) (b : Binds K fd ["P", "one", "other"] []) (mt : mg "tuple" = none) (Gb : Fn P w K mg base 2 "form_behind" ["P", "one", "form"] rBehind) : Fn P w K mg base 3 "then" ["P", "one", "other"] rThen := by
  refine fnF F hm b sc_then (fun ds r h => by cases h; rfl) fun X hX hT ds r h => ?_
  cases h with
  | @mk p one other hp hn hm h1 h2 =>
    refine' sm_end (s1_retE ?e1 ?e2)
    case' e1 =>
      refine' tupleF hX ?g mt (evs_new ?a)
      case' g => decide +kernel
      case' a =>
        refine' lcF hX 3 other tI (fun f => tI (formBehind p one f)) ?i rfl ?ok ?nn ?lx ?zz ?jj fun Y hY z hz => ?e3
        case' i => wtm_at "iter"
        case' ok => decide +kernel
        case' nn => rfl
        case' lx => decide +kernel
        case' zz => wtm_at "sz"
        case' jj => rfl
        case' e3 =>
          have hz2 := h2 z hz
          wtm_at "ev"
    case e2 => simp [thenT, tT]
end
end W

namespace W
/-! sums and congruence -/
def sm : Nat → (Nat → Int) → Int
  | 0, _ => 0
  | k + 1, g => sm k g + g k
theorem sm_congr : ∀ {n : Nat} {g h : Nat → Int}, (∀ k, k < n → g k = h k) → sm n g = sm n h
  | 0, _, _, _ => rfl
  | n + 1, g, h, e => by
    show sm n g + g n = sm n h + h n
    rw [sm_congr (n := n) fun k hk => e k (by omega), e n (by omega)]
theorem sm_add : ∀ {n : Nat} {g h : Nat → Int}, sm n (fun k => g k + h k) = sm n g + sm n h
  | 0, _, _ => rfl
  | n + 1, g, h => by
    show sm n (fun k => g k + h k) + (g n + h n) = (sm n g + g n) + (sm n h + h n)
    rw [sm_add (n := n)]; omega
theorem sm_mulL {c : Int} : ∀ {n : Nat} {g : Nat → Int}, sm n (fun k => c * g k) = c * sm n g
  | 0, _ => by simp [sm]
  | n + 1, g => by
    show sm n (fun k => c * g k) + c * g n = c * (sm n g + g n)
    rw [sm_mulL (n := n), Int.mul_add]
theorem sm_mulR {c : Int} {n : Nat} {g : Nat → Int} : sm n (fun k => g k * c) = sm n g * c := by
  rw [Int.mul_comm, ← sm_mulL]
  exact sm_congr fun k _ => Int.mul_comm _ _
theorem sm_zero : ∀ {n : Nat}, sm n (fun _ => 0) = 0
  | 0 => rfl
  | n + 1 => by show sm n (fun _ => 0) + 0 = 0; rw [sm_zero (n := n)]; rfl
theorem sm_swap {m : Nat} {g : Nat → Nat → Int} : ∀ {n : Nat}, sm n (fun i => sm m (fun j => g i j)) = sm m (fun j => sm n (fun i => g i j))
  | 0 => by show 0 = sm m (fun _ => 0); rw [sm_zero]
  | n + 1 => by
    show sm n (fun i => sm m (fun j => g i j)) + sm m (fun j => g n j) = sm m (fun j => sm n (fun i => g i j) + g n j)
    rw [sm_add, sm_swap (n := n)]
theorem sm_pick {x : Nat} {g : Nat → Int} : ∀ {n : Nat}, sm n (fun k => if k = x then g k else 0) = if x < n then g x else 0
  | 0 => by simp [sm]
  | n + 1 => by
    show sm n (fun k => if k = x then g k else 0) + (if n = x then g n else 0) = _
    rw [sm_pick (n := n)]
    by_cases h : n = x
    · subst h; simp
    · by_cases h2 : x < n
      · simp [h, h2, show x < n + 1 by omega]
      · simp [h, h2, show ¬ x < n + 1 by omega]
def Em (P a b : Int) : Prop := a % P = b % P
section
variable {P a b c d : Int}
theorem Em.refl : Em P a a := rfl
theorem Em.symm (h : Em P a b) : Em P b a := Eq.symm h
theorem Em.trans (h : Em P a b) (k : Em P b c) : Em P a c := Eq.trans h k
theorem Em.of_eq (h : a = b) : Em P a b := h ▸ Em.refl
theorem Em.mod : Em P (a % P) a := by show a % P % P = a % P; rw [Int.emod_emod_of_dvd _ (Int.dvd_refl P)]
theorem Em.add (h : Em P a b) (k : Em P c d) : Em P (a + c) (b + d) := by
  show (a + c) % P = (b + d) % P
  rw [Int.add_emod a c, Int.add_emod b d, h, k]
theorem Em.mul (h : Em P a b) (k : Em P c d) : Em P (a * c) (b * d) := by
  show (a * c) % P = (b * d) % P
  rw [Int.mul_emod a c, Int.mul_emod b d, h, k]
theorem Em.sub (h : Em P a b) (k : Em P c d) : Em P (a - c) (b - d) := by
  show (a - c) % P = (b - d) % P
  rw [Int.sub_emod a c, Int.sub_emod b d, h, k]
theorem Em.sm : ∀ {n : Nat} {g h : Nat → Int}, (∀ k, k < n → Em P (g k) (h k)) → Em P (sm n g) (sm n h)
  | 0, _, _, _ => rfl
  | n + 1, g, h, e => Em.add (Em.sm fun k hk => e k (by omega)) (e n (by omega))
theorem Em.eq (h : Em P a b) (a0 : 0 ≤ a) (a1 : a < P) (b0 : 0 ≤ b) (b1 : b < P) : a = b := by
  have e : a % P = b % P := h
  rwa [Int.emod_eq_of_lt a0 a1, Int.emod_eq_of_lt b0 b1] at e
end
/-! lists by their items -/
theorem ext_getD {α : Type} {xs ys : List α} (z : α) (hl : xs.length = ys.length) (h : ∀ i, i < xs.length → xs.getD i z = ys.getD i z) : xs = ys := by
  apply List.ext_getElem?
  intro i
  by_cases hi : i < xs.length
  · have := h i hi
    rw [List.getD_eq_getElem?_getD, List.getD_eq_getElem?_getD] at this
    rw [List.getElem?_eq_getElem hi, List.getElem?_eq_getElem (by omega : i < ys.length)] at this ⊢
    simpa using this
  · rw [List.getElem?_eq_none (by omega), List.getElem?_eq_none (by omega)]
theorem getD_map {α β : Type} (f : α → β) {xs : List α} {i : Nat} (z : α) (y : β) (h : i < xs.length) : (xs.map f).getD i y = f (xs.getD i z) := by
  rw [List.getD_eq_getElem?_getD, List.getD_eq_getElem?_getD, List.getElem?_map, List.getElem?_eq_getElem h]
  rfl
theorem getD_rangeMap {β : Type} (f : Nat → β) {n i : Nat} (y : β) (h : i < n) : ((List.range n).map f).getD i y = f i := by
  rw [List.getD_eq_getElem?_getD, List.getElem?_map, List.getElem?_range h]
  rfl
/-- on the wheel -/
def OnW (P : Int) (f : List Int) : Prop := ∀ x ∈ f, 0 ≤ x ∧ x < P
/-- a table of n boxes on the wheel -/
structure Tbl (P : Int) (n : Nat) (t : List (List Int)) : Prop where
  len : t.length = n
  row : ∀ f ∈ t, f.length = n + 1 ∧ OnW P f
theorem Tbl.frm {P : Int} {n : Nat} {t : List (List Int)} (h : Tbl P n t) (hP : P ≤ 9999) : ∀ f ∈ t, Frm n f := fun f hf => ⟨(h.row f hf).1, fun x hx => by have := (h.row f hf).2 x hx; omega⟩
theorem Tbl.frm' {P : Int} {n : Nat} {t : List (List Int)} (h : Tbl P n t) (hP : P ≤ 9999) : ∀ f ∈ t, Frm t.length f := by rw [h.len]; exact h.frm hP
def ini (n : Nat) (f : List Int) (i : Nat) : Int := if i = n then f.getD n 0 else 0
section
variable {P : Int} {one : List (List Int)} {f : List Int}
theorem rowAt_em (i : Nat) : ∀ k, Em P (rowAt P one f i k) (ini one.length f i + sm k fun j => f.getD j 0 * (one.getD j []).getD i 0)
  | 0 => by show Em P (if i = one.length then _ else _) _; exact Em.of_eq (by simp [ini, sm])
  | k + 1 => by
    show Em P ((rowAt P one f i k + f.getD k 0 * (one.getD k []).getD i 0) % P) _
    refine Em.mod.trans ?_
    have := (rowAt_em i k).add (Em.refl (P := P) (a := f.getD k 0 * (one.getD k []).getD i 0))
    exact this.trans (Em.of_eq (Int.add_assoc _ _ _))
theorem behind_get {i : Nat} (hn : 1 ≤ one.length) (hi : i < one.length + 1) : (formBehind P one f).getD i 0 = (ini one.length f i + sm one.length fun j => f.getD j 0 * (one.getD j []).getD i 0) % P := by
  unfold formBehind rowK
  rw [getD_rangeMap _ _ hi]
  have e := rowAt_em (P := P) (one := one) (f := f) i one.length
  have e2 : rowAt P one f i one.length = rowAt P one f i one.length % P := by
    obtain ⟨m, hm⟩ : ∃ m, one.length = m + 1 := ⟨one.length - 1, by omega⟩
    rw [hm]
    show (_ % P) = (_ % P) % P
    rw [Int.emod_emod_of_dvd _ (Int.dvd_refl P)]
  rw [e2]
  exact e
theorem behind_on (hn : 1 ≤ one.length) (hP : 0 < P) : OnW P (formBehind P one f) := fun x hx => by
  obtain ⟨i, hi, rfl⟩ := List.mem_iff_getElem.mp hx
  have h1 := behind_get (P := P) (one := one) (f := f) hn (by rw [formBehind_len] at hi; exact hi)
  rw [List.getD_eq_getElem?_getD, List.getElem?_eq_getElem hi] at h1
  simp only [Option.getD_some] at h1
  rw [h1]
  exact ⟨Int.emod_nonneg _ (by omega), Int.emod_lt_of_pos _ hP⟩
end
theorem then_tbl {P : Int} {n : Nat} {one other : List (List Int)} (hP : 0 < P) (hn : 1 ≤ n) (h1 : Tbl P n one) (h2 : Tbl P n other) : Tbl P n (thenT P one other) where
  len := by simp [thenT, h2.len]
  row := fun f hf => by
    simp only [thenT, List.mem_map] at hf
    obtain ⟨g, _, rfl⟩ := hf
    exact ⟨by rw [formBehind_len, h1.len], behind_on (by rw [h1.len]; exact hn) hP⟩
theorem then_get {P : Int} {one other : List (List Int)} {k : Nat} (h : k < other.length) : (thenT P one other).getD k [] = formBehind P one (other.getD k []) := getD_map _ [] [] h
/-- one and then other: its numbers -/
theorem then_num {P : Int} {n : Nat} {one other : List (List Int)} {k i : Nat} (hn : 1 ≤ n) (h1 : Tbl P n one) (h2 : Tbl P n other) (hk : k < n) (hi : i < n + 1) :
    ((thenT P one other).getD k []).getD i 0 = (ini n (other.getD k []) i + sm n fun j => (other.getD k []).getD j 0 * (one.getD j []).getD i 0) % P := by
  rw [then_get (by rw [h2.len]; exact hk)]
  have := behind_get (P := P) (one := one) (f := other.getD k []) (i := i) (by rw [h1.len]; exact hn) (by rw [h1.len]; exact hi)
  rw [h1.len] at this
  exact this
theorem Tbl.rowLen {P : Int} {n : Nat} {t : List (List Int)} (h : Tbl P n t) {k : Nat} (hk : k < n) : (t.getD k []).length = n + 1 := (h.row _ (getD_mem (by rw [h.len]; exact hk))).1
theorem Tbl.num {P : Int} {n : Nat} {t : List (List Int)} (h : Tbl P n t) {k i : Nat} (hk : k < n) (hi : i < n + 1) : 0 ≤ (t.getD k []).getD i 0 ∧ (t.getD k []).getD i 0 < P :=
  (h.row _ (getD_mem (by rw [h.len]; exact hk))).2 _ (getD_mem (by rw [h.rowLen hk]; exact hi))
theorem tbl_ext {P : Int} {n : Nat} {s t : List (List Int)} (h1 : Tbl P n s) (h2 : Tbl P n t) (h : ∀ k i, k < n → i < n + 1 → Em P ((s.getD k []).getD i 0) ((t.getD k []).getD i 0)) : s = t := by
  refine ext_getD [] (by rw [h1.len, h2.len]) fun k hk => ?_
  rw [h1.len] at hk
  refine ext_getD 0 (by rw [h1.rowLen hk, h2.rowLen hk]) fun i hi => ?_
  rw [h1.rowLen hk] at hi
  exact (h k i hk hi).eq (h1.num hk hi).1 (h1.num hk hi).2 (h2.num hk hi).1 (h2.num hk hi).2
theorem then_assoc {P : Int} {n : Nat} {a b c : List (List Int)} (hP : 0 < P) (hn : 1 ≤ n) (ha : Tbl P n a) (hb : Tbl P n b) (hc : Tbl P n c) : thenT P (thenT P a b) c = thenT P a (thenT P b c) := by
  have hab := then_tbl hP hn ha hb
  have hbc := then_tbl hP hn hb hc
  refine tbl_ext (then_tbl hP hn hab hc) (then_tbl hP hn ha hbc) fun k i hk hi => ?_
  rw [then_num hn hab hc hk hi, then_num hn ha hbc hk hi]
  refine Em.mod.trans (Em.trans ?_ Em.mod.symm)
  have lc : (c.getD k []).length = n + 1 := hc.rowLen hk
  -- left
  have e1 : Em P (sm n fun j => (c.getD k []).getD j 0 * ((thenT P a b).getD j []).getD i 0) (sm n fun j => (c.getD k []).getD j 0 * (ini n (b.getD j []) i + sm n fun l => (b.getD j []).getD l 0 * (a.getD l []).getD i 0)) :=
    Em.sm fun j hj => Em.refl.mul (by rw [then_num hn ha hb hj hi]; exact Em.mod)
  -- right
  have e2 : Em P (sm n fun l => ((thenT P b c).getD k []).getD l 0 * (a.getD l []).getD i 0) (sm n fun l => (sm n fun j => (c.getD k []).getD j 0 * (b.getD j []).getD l 0) * (a.getD l []).getD i 0) :=
    Em.sm fun l hl => Em.mul (by
      rw [then_num hn hb hc hk (by omega)]
      refine Em.mod.trans (Em.of_eq ?_)
      simp [ini, show l ≠ n by omega]) Em.refl
  have e3 : Em P (ini n ((thenT P b c).getD k []) i) (ini n (c.getD k []) i + sm n fun j => (c.getD k []).getD j 0 * ini n (b.getD j []) i) := by
    unfold ini
    by_cases hin : i = n
    · simp only [hin, if_true]
      rw [then_num hn hb hc hk (by omega)]
      refine Em.mod.trans (Em.of_eq ?_)
      simp [ini]
    · simp only [hin, if_false]
      exact Em.of_eq (by simp [sm_zero])
  refine (Em.refl.add e1).trans (Em.trans (Em.of_eq ?_) (e3.add e2).symm)
  have e4 : (sm n fun j => (c.getD k []).getD j 0 * (ini n (b.getD j []) i + sm n fun l => (b.getD j []).getD l 0 * (a.getD l []).getD i 0)) =
      (sm n fun j => (c.getD k []).getD j 0 * ini n (b.getD j []) i) + sm n fun j => sm n fun l => (c.getD k []).getD j 0 * (b.getD j []).getD l 0 * (a.getD l []).getD i 0 := by
    rw [← sm_add]
    refine sm_congr fun j _ => ?_
    rw [Int.mul_add, ← sm_mulL]
    congr 1
    exact sm_congr fun l _ => (Int.mul_assoc _ _ _).symm
  have e5 : (sm n fun l => (sm n fun j => (c.getD k []).getD j 0 * (b.getD j []).getD l 0) * (a.getD l []).getD i 0) = sm n fun j => sm n fun l => (c.getD k []).getD j 0 * (b.getD j []).getD l 0 * (a.getD l []).getD i 0 := by
    rw [sm_swap]
    exact sm_congr fun l _ => sm_mulR.symm
  rw [e4, e5]
  omega
theorem box_get {n : Nat} {x i : Nat} (hi : i < n + 1) : (boxForm n (x : Int)).getD i 0 = if i = x then 1 else 0 := by
  unfold boxForm
  rw [getD_rangeMap _ _ hi]
  by_cases h : i = x
  · simp [h]
  · simp [h]; omega
theorem idle_tbl {P : Int} {n : Nat} (hP : 1 < P) : Tbl P n (idle n) where
  len := idle_len n
  row := fun f hf => by
    simp only [idle, List.mem_map] at hf
    obtain ⟨x, _, rfl⟩ := hf
    refine ⟨(boxForm_frm n x).1, fun y hy => ?_⟩
    simp only [boxForm, List.mem_map] at hy
    obtain ⟨k, _, rfl⟩ := hy
    split <;> omega
theorem idle_num {n x i : Nat} (hx : x < n) (hi : i < n + 1) : ((idle n).getD x []).getD i 0 = if i = x then 1 else 0 := by
  unfold idle
  rw [getD_rangeMap _ _ hx, box_get hi]
theorem idle_then {P : Int} {n : Nat} {t : List (List Int)} (hP : 1 < P) (hn : 1 ≤ n) (h : Tbl P n t) : thenT P (idle n) t = t := by
  refine tbl_ext (then_tbl (by omega) hn (idle_tbl hP) h) h fun k i hk hi => ?_
  rw [then_num hn (idle_tbl hP) h hk hi]
  refine Em.mod.trans (Em.of_eq ?_)
  have e : (sm n fun j => (t.getD k []).getD j 0 * ((idle n).getD j []).getD i 0) = sm n fun j => if j = i then (t.getD k []).getD j 0 else 0 :=
    sm_congr fun j hj => by
      rw [idle_num hj hi]
      by_cases h1 : j = i
      · simp [h1]
      · simp [h1, show ¬ i = j from fun e => h1 e.symm]
  rw [e, sm_pick]
  unfold ini
  by_cases h1 : i = n
  · simp [h1]
  · simp [h1, show i < n by omega]
theorem then_idle {P : Int} {n : Nat} {t : List (List Int)} (hP : 1 < P) (hn : 1 ≤ n) (h : Tbl P n t) : thenT P t (idle n) = t := by
  refine tbl_ext (then_tbl (by omega) hn h (idle_tbl hP)) h fun k i hk hi => ?_
  rw [then_num hn h (idle_tbl hP) hk hi]
  refine Em.mod.trans (Em.of_eq ?_)
  have e : (sm n fun j => ((idle n).getD k []).getD j 0 * (t.getD j []).getD i 0) = sm n fun j => if j = k then (t.getD j []).getD i 0 else 0 :=
    sm_congr fun j hj => by
      rw [idle_num hk (by omega)]
      by_cases h1 : j = k
      · simp [h1]
      · simp [h1]
  rw [e, sm_pick]
  have e2 : ini n ((idle n).getD k []) i = 0 := by
    unfold ini
    by_cases h1 : i = n
    · rw [if_pos h1, idle_num hk (by omega), if_neg (by omega)]
    · rw [if_neg h1]
  rw [e2, if_pos hk]
  omega
end W

namespace W
open PySem PySem.Spec PyProof.Rows L2 LR
section
variable {P : Program} {w : World} {K : PySem.W.Frag} {mg : Str → Option Value} {base : Heap}
def lawCell (sc : List Int) (k : Int) : Int := if k < sc.length then sc.getD k.toNat 0 else 0
inductive rCell : List PyData → Res → Prop
  | mk {s : List Int} {k : Int} (h : 0 ≤ k) : rCell [.list (s.map .int), .int k] (.ok (.dat (.int (lawCell s k))))
local macro_rules | `(tactic| wtm_at "nm") => `(tactic| first
  | ((with_reducible show Ev _ _ (.Name "script" _) _); exact nmF (by assumption) 0 (by rfl) rfl (by decide +kernel) (by decide +kernel) (by decide +kernel))
  | ((with_reducible show Ev _ _ (.Name "k" _) _); exact nmF (by assumption) 1 (by rfl) rfl (by decide +kernel) (by decide +kernel) (by decide +kernel)))
local macro_rules | `(tactic| wtm_at "own") => `(tactic| first
  | ((with_reducible show EvS _ _ (.Name "script" _) _ _); exact ownF (by assumption) 0 (by rfl) rfl (by decide +kernel) (by decide +kernel) (by decide +kernel))
  | ((with_reducible show EvS _ _ (.Name "k" _) _ _); exact ownF (by assumption) 1 (by rfl) rfl (by decide +kernel) (by decide +kernel) (by decide +kernel)))
local macro_rules | `(tactic| wtm_at "ownl") => `(tactic| first
  | ((with_reducible show EvL _ _ (.Name "script" _) _); exact ownlF (by assumption) 0 (by rfl) rfl (by decide +kernel) (by decide +kernel) (by decide +kernel))
  | ((with_reducible show EvL _ _ (.Name "k" _) _); exact ownlF (by assumption) 1 (by rfl) rfl (by decide +kernel) (by decide +kernel) (by decide +kernel)))
local macro_rules | `(tactic| wtm_at "set") => `(tactic| first
  | ((with_reducible show S1 _ _ (.Assign [.Name "script" _] _ _) _); refine' setF ?st1 ?st2 0 ?st3 ?st4 ?ste ?st5; (case' st1 => assumption); (case' st2 => assumption); (case' st3 => rfl); (case' st4 => decide +kernel); (case' ste => wtm_at "ev"); (case' st5 => rfl))
  | ((with_reducible show S1 _ _ (.Assign [.Name "k" _] _ _) _); refine' setF ?st1 ?st2 1 ?st3 ?st4 ?ste ?st5; (case' st1 => assumption); (case' st2 => assumption); (case' st3 => rfl); (case' st4 => decide +kernel); (case' ste => wtm_at "ev"); (case' st5 => rfl)))
local macro_rules | `(tactic| wtm_at "app") => `(tactic| first
  | ((with_reducible show S1 _ _ (.Expr (.Call (.Attribute (.Name "script" _) _ _) _ _ _) _) _); refine' appF ?ap1 0 ?ap2 ?ap3 ?ap4 ?ape ?aps ?ap5 ?ap6; (case' ap1 => assumption); (case' ap2 => rfl); (case' ap3 => rfl); (case' ap4 => decide +kernel); (case' ape => wtm_at "ev"); (case' aps => try (wtm_at "sz")); (case' ap5 => decide +kernel); (case' ap6 => decide +kernel))
  | ((with_reducible show S1 _ _ (.Expr (.Call (.Attribute (.Name "k" _) _ _) _ _ _) _) _); refine' appF ?ap1 1 ?ap2 ?ap3 ?ap4 ?ape ?aps ?ap5 ?ap6; (case' ap1 => assumption); (case' ap2 => rfl); (case' ap3 => rfl); (case' ap4 => decide +kernel); (case' ape => wtm_at "ev"); (case' aps => try (wtm_at "sz")); (case' ap5 => decide +kernel); (case' ap6 => decide +kernel)))
local macro_rules | `(tactic| wtm_at "put") => `(tactic| first
  | ((with_reducible show S1 _ _ (.Assign [.Subscript (.Name "script" _) _ _] _ _) _); refine' putF ?pu1 0 ?pu2 ?pu3 ?pu4 ?pue ?pui ?pu5 ?pu6 ?pu7 ?pu8; (case' pu1 => assumption); (case' pu2 => rfl); (case' pu3 => rfl); (case' pu4 => decide +kernel); (case' pue => wtm_at "ev"); (case' pui => wtm_at "ev"); (case' pu5 => try (wtm_at "sd")); (case' pu6 => try (wtm_at "sd")); (case' pu7 => decide +kernel); (case' pu8 => decide +kernel))
  | ((with_reducible show S1 _ _ (.Assign [.Subscript (.Name "k" _) _ _] _ _) _); refine' putF ?pu1 1 ?pu2 ?pu3 ?pu4 ?pue ?pui ?pu5 ?pu6 ?pu7 ?pu8; (case' pu1 => assumption); (case' pu2 => rfl); (case' pu3 => rfl); (case' pu4 => decide +kernel); (case' pue => wtm_at "ev"); (case' pui => wtm_at "ev"); (case' pu5 => try (wtm_at "sd")); (case' pu6 => try (wtm_at "sd")); (case' pu7 => decide +kernel); (case' pu8 => decide +kernel)))
local macro_rules | `(tactic| wtm_at "reto") => `(tactic| first
  | ((with_reducible show S1 _ _ (.Return (some (.Name "script" _)) _) _); exact retOF (by assumption) 0 (by rfl) rfl (by decide +kernel) (by decide +kernel) (by decide +kernel))
  | ((with_reducible show S1 _ _ (.Return (some (.Name "k" _)) _) _); exact retOF (by assumption) 1 (by rfl) rfl (by decide +kernel) (by decide +kernel) (by decide +kernel)))
local macro_rules | `(tactic| wtm_at "tgt") => `(tactic| first
  | ((with_reducible show PG _ (.Name "script" _) _); exact tgF (by assumption) (by assumption) 0 (by rfl) (by decide +kernel))
  | ((with_reducible show PG _ (.Name "k" _) _); exact tgF (by assumption) (by assumption) 1 (by rfl) (by decide +kernel)))
theorem ok_cell {f : Addr} {fd : FuncData} (F : Fun K "_law_cell" "_law_cell" s__law_cell f fd) (hm : mg "_law_cell" = some (.ref f)) (b : Binds K fd ["script", "k"] []) (ml : mg "len" = none) : Fn P w K mg base 1 "_law_cell" ["script", "k"] rCell := by
  refine fnF F hm b sc__law_cell (fun ds r h => by cases h; rfl) fun X hX hT ds r h => ?_
  cases h with
  | @mk s k hk =>
    by_cases hl : k < s.length
    · refine' sm_end (s1_if ?c (fun _ => sm_end ?s1) fun h => ?f)
      case' c => wtm_at "test"
      case' s1 => rw [lawCell, if_pos hl]; wtm_at "st"
      case f => simp [hl] at h
    · refine' sm_cons (s1_if ?c2 (fun h => ?f2) fun _ => sm_nil) ?_
      case' c2 => wtm_at "test"
      case f2 => simp [hl] at h
      rw [lawCell, if_neg hl]
      refine' sm_end ?s2
      case' s2 => wtm_at "st"
/-! a prime -/
def smooth (n : Int) : Bool := ((List.range 98).filter fun i : Nat => decide (2 + (i : Int) < n)).any fun i : Nat => decide (n % (2 + (i : Int)) = 0)
def lstep : Nat → Int → Nat
  | 0, _ => 0
  | f + 1, n => if smooth n then lstep f (n + 1) + 1 else 0
theorem lstep_ok : ∀ (k f : Nat) (n : Int), k ≤ f → smooth (n + k) = false → (∀ i, i < lstep f n → smooth (n + i) = true) ∧ smooth (n + lstep f n) = false ∧ lstep f n ≤ k
  | 0, f, n, hf, h => by
    have h0 : smooth n = false := by simpa using h
    cases f with
    | zero => exact ⟨fun i hi => by simp [lstep] at hi, by simpa [lstep] using h0, by simp [lstep]⟩
    | succ f => simp [lstep, h0]
  | k + 1, 0, n, hf, h => by omega
  | k + 1, f + 1, n, hf, h => by
    cases h0 : smooth n with
    | false => simp [lstep, h0]
    | true =>
      have e : n + ((k + 1 : Nat) : Int) = (n + 1) + (k : Int) := by omega
      rw [e] at h
      obtain ⟨a, b, c⟩ := lstep_ok k f (n + 1) (by omega) h
      have e2 : lstep (f + 1) n = lstep f (n + 1) + 1 := by simp [lstep, h0]
      rw [e2]
      refine ⟨fun i hi => ?_, ?_, by omega⟩
      · cases i with
        | zero => simpa using h0
        | succ i =>
          have := a i (by omega)
          have e3 : n + ((i + 1 : Nat) : Int) = (n + 1) + (i : Int) := by omega
          rw [e3]; exact this
      · have e3 : n + ((lstep f (n + 1) + 1 : Nat) : Int) = (n + 1) + (lstep f (n + 1) : Int) := by omega
        rw [e3]; exact b
theorem smooth_9973 : smooth 9973 = false := by decide +kernel
def nextP (n : Int) : Int := n + lstep 10000 n
theorem nextP_ok {n : Int} (h1 : 3 ≤ n) (h2 : n ≤ 9973) : ∃ k : Nat, (∀ i, i < k → smooth (n + i) = true) ∧ smooth (n + k) = false ∧ nextP n = n + k ∧ n + k ≤ 9973 := by
  have e : n + ((9973 - n).toNat : Int) = 9973 := by omega
  obtain ⟨a, b, c⟩ := lstep_ok (9973 - n).toNat 10000 n (by omega) (by rw [e]; exact smooth_9973)
  exact ⟨lstep 10000 n, a, b, rfl, by omega⟩
/-- a prime of the wheel -/
structure Prm (p : Int) : Prop where
  lo : 3 ≤ p
  hi : p ≤ 9999
  no : ∀ d, 2 ≤ d → d < p → p % d ≠ 0
theorem prm_of {n : Int} (h1 : 3 ≤ n) (h2 : n ≤ 9999) (h : smooth n = false) : Prm n := by
  refine ⟨h1, h2, fun d hd hd2 hm => ?_⟩
  have key : ∀ d : Int, 2 ≤ d → d < n → d < 100 → n % d = 0 → False := fun d hd hd2 h100 hm => by
    unfold smooth at h
    rw [List.any_eq_false] at h
    have := h (d - 2).toNat (by
      rw [List.mem_filter]
      exact ⟨List.mem_range.mpr (by omega), decide_eq_true (by omega)⟩)
    have e : 2 + (((d - 2).toNat : Nat) : Int) = d := by omega
    rw [e] at this
    simp [hm] at this
  by_cases h100 : d < 100
  · exact key d hd hd2 h100 hm
  · obtain ⟨q, hq⟩ := Int.dvd_of_emod_eq_zero hm
    have q0 : 0 < q := by
      rcases Int.lt_or_le 0 q with z | z
      · exact z
      · have : d * q ≤ d * 0 := Int.mul_le_mul_of_nonneg_left z (by omega)
        omega
    have q1 : 2 ≤ q := by
      rcases Int.lt_or_le q 2 with z | z
      · have : q = 1 := by omega
        subst this
        omega
      · exact z
    have q100 : q < 100 := by
      rcases Int.lt_or_le q 100 with z | z
      · exact z
      · have : 100 * 100 ≤ d * q := Int.mul_le_mul (by omega) z (by omega) (by omega)
        omega
    refine key q q1 ?_ q100 ?_
    · have : 2 * q ≤ d * q := Int.mul_le_mul_of_nonneg_right hd (by omega)
      omega
    · rw [hq]; exact Int.mul_emod_left d q
def lawPrime (cell : Int) : Int := if cell % 2 = 0 then [3, 5, 7, 11, 13, 17, 19, 23].getD (cell / 2 % 8).toNat 0 else nextP (3 + cell / 2 % 9971)
theorem lawPrime_prm (cell : Int) : Prm (lawPrime cell) ∧ lawPrime cell ≤ 9973 := by
  unfold lawPrime
  split
  · have h : ∀ k, k < 8 → smooth ([3, 5, 7, 11, 13, 17, 19, 23].getD k 0) = false ∧ (3 : Int) ≤ [3, 5, 7, 11, 13, 17, 19, 23].getD k 0 ∧ [3, 5, 7, 11, 13, 17, 19, 23].getD k 0 ≤ (9973 : Int) := by decide +kernel
    obtain ⟨a, b, c⟩ := h (cell / 2 % 8).toNat (by omega)
    exact ⟨prm_of b (by omega) a, c⟩
  · obtain ⟨k, _, b, c, d⟩ := nextP_ok (n := 3 + cell / 2 % 9971) (by omega) (by omega)
    rw [c]
    exact ⟨prm_of (by omega) (by omega) b, d⟩
inductive rPrime : List PyData → Res → Prop
  | mk {c : Int} : rPrime [.int c] (.ok (.dat (.int (lawPrime c))))
theorem et_eq {X : Cx} {A : List C} {e : Expr} {v u : Bool} (h : Et X A e v) (hd : v = u) : Et X A e u := hd ▸ h
theorem evs_eq {X : Cx} {A : List C} {e : Expr} {k : Bool} {ds ds' : List PyData} (h : EvS X A e k ds) (hd : ds = ds') : EvS X A e k ds' := hd ▸ h
local macro_rules | `(tactic| wtm_at "nm") => `(tactic| first
  | ((with_reducible show Ev _ _ (.Name "cell" _) _); exact nmF (by assumption) 0 (by rfl) rfl (by decide +kernel) (by decide +kernel) (by decide +kernel))
  | ((with_reducible show Ev _ _ (.Name "n" _) _); exact nmF (by assumption) 1 (by rfl) rfl (by decide +kernel) (by decide +kernel) (by decide +kernel))
  | ((with_reducible show Ev _ _ (.Name "by" _) _); exact nmF (by assumption) 2 (by rfl) rfl (by decide +kernel) (by decide +kernel) (by decide +kernel)))
local macro_rules | `(tactic| wtm_at "own") => `(tactic| first
  | ((with_reducible show EvS _ _ (.Name "cell" _) _ _); exact ownF (by assumption) 0 (by rfl) rfl (by decide +kernel) (by decide +kernel) (by decide +kernel))
  | ((with_reducible show EvS _ _ (.Name "n" _) _ _); exact ownF (by assumption) 1 (by rfl) rfl (by decide +kernel) (by decide +kernel) (by decide +kernel))
  | ((with_reducible show EvS _ _ (.Name "by" _) _ _); exact ownF (by assumption) 2 (by rfl) rfl (by decide +kernel) (by decide +kernel) (by decide +kernel)))
local macro_rules | `(tactic| wtm_at "ownl") => `(tactic| first
  | ((with_reducible show EvL _ _ (.Name "cell" _) _); exact ownlF (by assumption) 0 (by rfl) rfl (by decide +kernel) (by decide +kernel) (by decide +kernel))
  | ((with_reducible show EvL _ _ (.Name "n" _) _); exact ownlF (by assumption) 1 (by rfl) rfl (by decide +kernel) (by decide +kernel) (by decide +kernel))
  | ((with_reducible show EvL _ _ (.Name "by" _) _); exact ownlF (by assumption) 2 (by rfl) rfl (by decide +kernel) (by decide +kernel) (by decide +kernel)))
local macro_rules | `(tactic| wtm_at "set") => `(tactic| first
  | ((with_reducible show S1 _ _ (.Assign [.Name "cell" _] _ _) _); refine' setF ?st1 ?st2 0 ?st3 ?st4 ?ste ?st5; (case' st1 => assumption); (case' st2 => assumption); (case' st3 => rfl); (case' st4 => decide +kernel); (case' ste => wtm_at "ev"); (case' st5 => rfl))
  | ((with_reducible show S1 _ _ (.Assign [.Name "n" _] _ _) _); refine' setF ?st1 ?st2 1 ?st3 ?st4 ?ste ?st5; (case' st1 => assumption); (case' st2 => assumption); (case' st3 => rfl); (case' st4 => decide +kernel); (case' ste => wtm_at "ev"); (case' st5 => rfl)))
local macro_rules | `(tactic| wtm_at "app") => `(tactic| first
  | ((with_reducible show S1 _ _ (.Expr (.Call (.Attribute (.Name "cell" _) _ _) _ _ _) _) _); refine' appF ?ap1 0 ?ap2 ?ap3 ?ap4 ?ape ?aps ?ap5 ?ap6; (case' ap1 => assumption); (case' ap2 => rfl); (case' ap3 => rfl); (case' ap4 => decide +kernel); (case' ape => wtm_at "ev"); (case' aps => try (wtm_at "sz")); (case' ap5 => decide +kernel); (case' ap6 => decide +kernel))
  | ((with_reducible show S1 _ _ (.Expr (.Call (.Attribute (.Name "n" _) _ _) _ _ _) _) _); refine' appF ?ap1 1 ?ap2 ?ap3 ?ap4 ?ape ?aps ?ap5 ?ap6; (case' ap1 => assumption); (case' ap2 => rfl); (case' ap3 => rfl); (case' ap4 => decide +kernel); (case' ape => wtm_at "ev"); (case' aps => try (wtm_at "sz")); (case' ap5 => decide +kernel); (case' ap6 => decide +kernel)))
local macro_rules | `(tactic| wtm_at "put") => `(tactic| first
  | ((with_reducible show S1 _ _ (.Assign [.Subscript (.Name "cell" _) _ _] _ _) _); refine' putF ?pu1 0 ?pu2 ?pu3 ?pu4 ?pue ?pui ?pu5 ?pu6 ?pu7 ?pu8; (case' pu1 => assumption); (case' pu2 => rfl); (case' pu3 => rfl); (case' pu4 => decide +kernel); (case' pue => wtm_at "ev"); (case' pui => wtm_at "ev"); (case' pu5 => try (wtm_at "sd")); (case' pu6 => try (wtm_at "sd")); (case' pu7 => decide +kernel); (case' pu8 => decide +kernel))
  | ((with_reducible show S1 _ _ (.Assign [.Subscript (.Name "n" _) _ _] _ _) _); refine' putF ?pu1 1 ?pu2 ?pu3 ?pu4 ?pue ?pui ?pu5 ?pu6 ?pu7 ?pu8; (case' pu1 => assumption); (case' pu2 => rfl); (case' pu3 => rfl); (case' pu4 => decide +kernel); (case' pue => wtm_at "ev"); (case' pui => wtm_at "ev"); (case' pu5 => try (wtm_at "sd")); (case' pu6 => try (wtm_at "sd")); (case' pu7 => decide +kernel); (case' pu8 => decide +kernel)))
local macro_rules | `(tactic| wtm_at "reto") => `(tactic| first
  | ((with_reducible show S1 _ _ (.Return (some (.Name "cell" _)) _) _); exact retOF (by assumption) 0 (by rfl) rfl (by decide +kernel) (by decide +kernel) (by decide +kernel))
  | ((with_reducible show S1 _ _ (.Return (some (.Name "n" _)) _) _); exact retOF (by assumption) 1 (by rfl) rfl (by decide +kernel) (by decide +kernel) (by decide +kernel)))
local macro_rules | `(tactic| wtm_at "tgt") => `(tactic| first
  | ((with_reducible show PG _ (.Name "cell" _) _); exact tgF (by assumption) (by assumption) 0 (by rfl) (by decide +kernel))
  | ((with_reducible show PG _ (.Name "n" _) _); exact tgF (by assumption) (by assumption) 1 (by rfl) (by decide +kernel)))
theorem ok_prime {f : Addr} {fd : FuncData} (F : Fun K "_law_prime" "_law_prime" s__law_prime f fd) (hm : mg "_law_prime" = some (.ref f)) (b : Binds K fd ["cell"] []) (ma : mg "any" = none) (mr : mg "range" = none) : Fn P w K mg base 1 "_law_prime" ["cell"] rPrime := by
  refine fnF F hm b sc__law_prime (fun ds r h => by cases h; rfl) fun X hX hT ds r h => ?_
  cases h with
  | @mk c =>
    by_cases hc : c % 2 = 0
    · refine' sm_end (s1_if ?c (fun _ => sm_end ?s1) fun h => ?f)
      case' c => wtm_at "test"
      case f => simp [hc] at h
      case' s1 =>
        rw [lawPrime, if_pos hc]
        refine' s1_ret ?ra
        case' ra =>
          refine' ev_atD (ds := ([3, 5, 7, 11, 13, 17, 19, 23] : List Int).map .int) ?a ?b ?r ?x
          case' x => exact fun _ _ => rfl
          case' a =>
            refine' evs_tup ?a0
            case' a0 =>
              refine' ev_tup ?b1 ?b2
              case' b1 => wtm_at "args"
              case' b2 => decide +kernel
          case' b => wtm_at "ev"
          case' r => wtm_at "ix"
    · refine' sm_cons (s1_if ?c2 (fun h => ?f2) fun _ => sm_nil) ?_
      case' c2 => wtm_at "test"
      case f2 => simp [hc] at h
      rw [lawPrime, if_neg hc]
      refine' sm_cons ?sn ?_
      case' sn => wtm_at "st"
      generalize hn : 3 + c / 2 % 9971 = n
      obtain ⟨m, n1, n2, n3, n4⟩ := nextP_ok (n := n) (by omega) (by omega)
      rw [n3]
      refine' sm_cons ?w ?_
      case' w =>
        refine' whileV hX (fun i => [.dat (.int c), .dat (.int (n + i)), .un]) m (fun i => smooth (n + i)) ?l (fun i _ => ?t) n1 n2 fun i hi => ?s2
        case' l => wtm_at "le"
        case' t =>
          refine' et_ev ?v0
          case' v0 =>
           refine' ev_eq ?v1 ?e0
           case' v1 =>
            refine' anyF hX ?g0 ma ?s0
            case' g0 => decide +kernel
          case' s0 =>
            refine' evs_eq (evs_new ?a2) ?e2
            case' a2 =>
              refine' lcIf hX 2 (List.range 98) (fun j : Nat => .int (2 + (j : Int))) (fun j : Nat => decide (2 + (j : Int) < n + i)) (fun j : Nat => .bool (decide ((n + i) % (2 + (j : Int)) = 0))) ?i ?sr ?ok ?nn ?lx ?zz ?jj fun Y hY z hz => ⟨?t1, fun _ => ?e1⟩
              case' i => wtm_at "iter"
              case' sr => rfl
              case' ok => decide +kernel
              case' nn => rfl
              case' lx => decide +kernel
              case' zz => decide +kernel
              case' jj => rfl
              case' t1 => wtm_at "test"
              case' e1 => wtm_at "ev"
            case e2 => exact (List.map_map (f := fun j : Nat => decide ((n + i) % (2 + (j : Int)) = 0)) (g := PyData.bool)).symm
          case e0 => simp [smooth, List.any_map, Function.comp_def]
        case' s2 =>
          refine' sm_le (sm_one ?s3) ?l3
          case' s3 => wtm_at "st"
          case' l3 => wtm_at "le"
      refine' sm_end ?s4
      case' s4 => wtm_at "st"
/-! digits -/
def dcell (c P : Int) : Nat → Int
  | 0 => c
  | k + 1 => dcell c P k / P
def lawDigits (c P : Int) (n : Nat) : List Int := (List.range n).map fun j => dcell c P j % P
theorem lawDigits_succ (c P : Int) (n : Nat) : lawDigits c P (n + 1) = lawDigits c P n ++ [dcell c P n % P] := by
  unfold lawDigits; rw [List.range_succ, List.map_append]; rfl
theorem lawDigits_len (c P : Int) (n : Nat) : (lawDigits c P n).length = n := by simp [lawDigits]
theorem lawDigits_mem {c P : Int} {n : Nat} (hP : 0 < P) : ∀ x ∈ lawDigits c P n, 0 ≤ x ∧ x < P := fun x hx => by
  unfold lawDigits at hx
  rw [List.mem_map] at hx
  obtain ⟨j, _, rfl⟩ := hx
  exact ⟨Int.emod_nonneg _ (by omega), Int.emod_lt_of_pos _ hP⟩
inductive rDigits : List PyData → Res → Prop
  | mk {c P n : Int} (h : 0 < P) (h2 : P < 1073741824) (h0 : 0 ≤ n) (hn : n ≤ 1000) : rDigits [.int c, .int P, .int n] (.ok (.dat (tI (lawDigits c P n.toNat))))
local macro_rules | `(tactic| wtm_at "nm") => `(tactic| first
  | ((with_reducible show Ev _ _ (.Name "cell" _) _); exact nmF (by assumption) 0 (by rfl) rfl (by decide +kernel) (by decide +kernel) (by decide +kernel))
  | ((with_reducible show Ev _ _ (.Name "P" _) _); exact nmF (by assumption) 1 (by rfl) rfl (by decide +kernel) (by decide +kernel) (by decide +kernel))
  | ((with_reducible show Ev _ _ (.Name "size" _) _); exact nmF (by assumption) 2 (by rfl) rfl (by decide +kernel) (by decide +kernel) (by decide +kernel))
  | ((with_reducible show Ev _ _ (.Name "out" _) _); exact nmF (by assumption) 3 (by rfl) rfl (by decide +kernel) (by decide +kernel) (by decide +kernel))
  | ((with_reducible show Ev _ _ (.Name "k" _) _); exact nmF (by assumption) 4 (by rfl) rfl (by decide +kernel) (by decide +kernel) (by decide +kernel)))
local macro_rules | `(tactic| wtm_at "own") => `(tactic| first
  | ((with_reducible show EvS _ _ (.Name "cell" _) _ _); exact ownF (by assumption) 0 (by rfl) rfl (by decide +kernel) (by decide +kernel) (by decide +kernel))
  | ((with_reducible show EvS _ _ (.Name "P" _) _ _); exact ownF (by assumption) 1 (by rfl) rfl (by decide +kernel) (by decide +kernel) (by decide +kernel))
  | ((with_reducible show EvS _ _ (.Name "size" _) _ _); exact ownF (by assumption) 2 (by rfl) rfl (by decide +kernel) (by decide +kernel) (by decide +kernel))
  | ((with_reducible show EvS _ _ (.Name "out" _) _ _); exact ownF (by assumption) 3 (by rfl) rfl (by decide +kernel) (by decide +kernel) (by decide +kernel))
  | ((with_reducible show EvS _ _ (.Name "k" _) _ _); exact ownF (by assumption) 4 (by rfl) rfl (by decide +kernel) (by decide +kernel) (by decide +kernel)))
local macro_rules | `(tactic| wtm_at "ownl") => `(tactic| first
  | ((with_reducible show EvL _ _ (.Name "cell" _) _); exact ownlF (by assumption) 0 (by rfl) rfl (by decide +kernel) (by decide +kernel) (by decide +kernel))
  | ((with_reducible show EvL _ _ (.Name "P" _) _); exact ownlF (by assumption) 1 (by rfl) rfl (by decide +kernel) (by decide +kernel) (by decide +kernel))
  | ((with_reducible show EvL _ _ (.Name "size" _) _); exact ownlF (by assumption) 2 (by rfl) rfl (by decide +kernel) (by decide +kernel) (by decide +kernel))
  | ((with_reducible show EvL _ _ (.Name "out" _) _); exact ownlF (by assumption) 3 (by rfl) rfl (by decide +kernel) (by decide +kernel) (by decide +kernel))
  | ((with_reducible show EvL _ _ (.Name "k" _) _); exact ownlF (by assumption) 4 (by rfl) rfl (by decide +kernel) (by decide +kernel) (by decide +kernel)))
local macro_rules | `(tactic| wtm_at "set") => `(tactic| first
  | ((with_reducible show S1 _ _ (.Assign [.Name "cell" _] _ _) _); refine' setF ?st1 ?st2 0 ?st3 ?st4 ?ste ?st5; (case' st1 => assumption); (case' st2 => assumption); (case' st3 => rfl); (case' st4 => decide +kernel); (case' ste => wtm_at "ev"); (case' st5 => rfl))
  | ((with_reducible show S1 _ _ (.Assign [.Name "P" _] _ _) _); refine' setF ?st1 ?st2 1 ?st3 ?st4 ?ste ?st5; (case' st1 => assumption); (case' st2 => assumption); (case' st3 => rfl); (case' st4 => decide +kernel); (case' ste => wtm_at "ev"); (case' st5 => rfl))
  | ((with_reducible show S1 _ _ (.Assign [.Name "size" _] _ _) _); refine' setF ?st1 ?st2 2 ?st3 ?st4 ?ste ?st5; (case' st1 => assumption); (case' st2 => assumption); (case' st3 => rfl); (case' st4 => decide +kernel); (case' ste => wtm_at "ev"); (case' st5 => rfl))
  | ((with_reducible show S1 _ _ (.Assign [.Name "out" _] _ _) _); refine' setF ?st1 ?st2 3 ?st3 ?st4 ?ste ?st5; (case' st1 => assumption); (case' st2 => assumption); (case' st3 => rfl); (case' st4 => decide +kernel); (case' ste => wtm_at "ev"); (case' st5 => rfl))
  | ((with_reducible show S1 _ _ (.Assign [.Name "k" _] _ _) _); refine' setF ?st1 ?st2 4 ?st3 ?st4 ?ste ?st5; (case' st1 => assumption); (case' st2 => assumption); (case' st3 => rfl); (case' st4 => decide +kernel); (case' ste => wtm_at "ev"); (case' st5 => rfl)))
local macro_rules | `(tactic| wtm_at "app") => `(tactic| first
  | ((with_reducible show S1 _ _ (.Expr (.Call (.Attribute (.Name "cell" _) _ _) _ _ _) _) _); refine' appF ?ap1 0 ?ap2 ?ap3 ?ap4 ?ape ?aps ?ap5 ?ap6; (case' ap1 => assumption); (case' ap2 => rfl); (case' ap3 => rfl); (case' ap4 => decide +kernel); (case' ape => wtm_at "ev"); (case' aps => try (wtm_at "sz")); (case' ap5 => decide +kernel); (case' ap6 => decide +kernel))
  | ((with_reducible show S1 _ _ (.Expr (.Call (.Attribute (.Name "P" _) _ _) _ _ _) _) _); refine' appF ?ap1 1 ?ap2 ?ap3 ?ap4 ?ape ?aps ?ap5 ?ap6; (case' ap1 => assumption); (case' ap2 => rfl); (case' ap3 => rfl); (case' ap4 => decide +kernel); (case' ape => wtm_at "ev"); (case' aps => try (wtm_at "sz")); (case' ap5 => decide +kernel); (case' ap6 => decide +kernel))
  | ((with_reducible show S1 _ _ (.Expr (.Call (.Attribute (.Name "size" _) _ _) _ _ _) _) _); refine' appF ?ap1 2 ?ap2 ?ap3 ?ap4 ?ape ?aps ?ap5 ?ap6; (case' ap1 => assumption); (case' ap2 => rfl); (case' ap3 => rfl); (case' ap4 => decide +kernel); (case' ape => wtm_at "ev"); (case' aps => try (wtm_at "sz")); (case' ap5 => decide +kernel); (case' ap6 => decide +kernel))
  | ((with_reducible show S1 _ _ (.Expr (.Call (.Attribute (.Name "out" _) _ _) _ _ _) _) _); refine' appF ?ap1 3 ?ap2 ?ap3 ?ap4 ?ape ?aps ?ap5 ?ap6; (case' ap1 => assumption); (case' ap2 => rfl); (case' ap3 => rfl); (case' ap4 => decide +kernel); (case' ape => wtm_at "ev"); (case' aps => try (wtm_at "sz")); (case' ap5 => decide +kernel); (case' ap6 => decide +kernel))
  | ((with_reducible show S1 _ _ (.Expr (.Call (.Attribute (.Name "k" _) _ _) _ _ _) _) _); refine' appF ?ap1 4 ?ap2 ?ap3 ?ap4 ?ape ?aps ?ap5 ?ap6; (case' ap1 => assumption); (case' ap2 => rfl); (case' ap3 => rfl); (case' ap4 => decide +kernel); (case' ape => wtm_at "ev"); (case' aps => try (wtm_at "sz")); (case' ap5 => decide +kernel); (case' ap6 => decide +kernel)))
local macro_rules | `(tactic| wtm_at "put") => `(tactic| first
  | ((with_reducible show S1 _ _ (.Assign [.Subscript (.Name "cell" _) _ _] _ _) _); refine' putF ?pu1 0 ?pu2 ?pu3 ?pu4 ?pue ?pui ?pu5 ?pu6 ?pu7 ?pu8; (case' pu1 => assumption); (case' pu2 => rfl); (case' pu3 => rfl); (case' pu4 => decide +kernel); (case' pue => wtm_at "ev"); (case' pui => wtm_at "ev"); (case' pu5 => try (wtm_at "sd")); (case' pu6 => try (wtm_at "sd")); (case' pu7 => decide +kernel); (case' pu8 => decide +kernel))
  | ((with_reducible show S1 _ _ (.Assign [.Subscript (.Name "P" _) _ _] _ _) _); refine' putF ?pu1 1 ?pu2 ?pu3 ?pu4 ?pue ?pui ?pu5 ?pu6 ?pu7 ?pu8; (case' pu1 => assumption); (case' pu2 => rfl); (case' pu3 => rfl); (case' pu4 => decide +kernel); (case' pue => wtm_at "ev"); (case' pui => wtm_at "ev"); (case' pu5 => try (wtm_at "sd")); (case' pu6 => try (wtm_at "sd")); (case' pu7 => decide +kernel); (case' pu8 => decide +kernel))
  | ((with_reducible show S1 _ _ (.Assign [.Subscript (.Name "size" _) _ _] _ _) _); refine' putF ?pu1 2 ?pu2 ?pu3 ?pu4 ?pue ?pui ?pu5 ?pu6 ?pu7 ?pu8; (case' pu1 => assumption); (case' pu2 => rfl); (case' pu3 => rfl); (case' pu4 => decide +kernel); (case' pue => wtm_at "ev"); (case' pui => wtm_at "ev"); (case' pu5 => try (wtm_at "sd")); (case' pu6 => try (wtm_at "sd")); (case' pu7 => decide +kernel); (case' pu8 => decide +kernel))
  | ((with_reducible show S1 _ _ (.Assign [.Subscript (.Name "out" _) _ _] _ _) _); refine' putF ?pu1 3 ?pu2 ?pu3 ?pu4 ?pue ?pui ?pu5 ?pu6 ?pu7 ?pu8; (case' pu1 => assumption); (case' pu2 => rfl); (case' pu3 => rfl); (case' pu4 => decide +kernel); (case' pue => wtm_at "ev"); (case' pui => wtm_at "ev"); (case' pu5 => try (wtm_at "sd")); (case' pu6 => try (wtm_at "sd")); (case' pu7 => decide +kernel); (case' pu8 => decide +kernel))
  | ((with_reducible show S1 _ _ (.Assign [.Subscript (.Name "k" _) _ _] _ _) _); refine' putF ?pu1 4 ?pu2 ?pu3 ?pu4 ?pue ?pui ?pu5 ?pu6 ?pu7 ?pu8; (case' pu1 => assumption); (case' pu2 => rfl); (case' pu3 => rfl); (case' pu4 => decide +kernel); (case' pue => wtm_at "ev"); (case' pui => wtm_at "ev"); (case' pu5 => try (wtm_at "sd")); (case' pu6 => try (wtm_at "sd")); (case' pu7 => decide +kernel); (case' pu8 => decide +kernel)))
local macro_rules | `(tactic| wtm_at "reto") => `(tactic| first
  | ((with_reducible show S1 _ _ (.Return (some (.Name "cell" _)) _) _); exact retOF (by assumption) 0 (by rfl) rfl (by decide +kernel) (by decide +kernel) (by decide +kernel))
  | ((with_reducible show S1 _ _ (.Return (some (.Name "P" _)) _) _); exact retOF (by assumption) 1 (by rfl) rfl (by decide +kernel) (by decide +kernel) (by decide +kernel))
  | ((with_reducible show S1 _ _ (.Return (some (.Name "size" _)) _) _); exact retOF (by assumption) 2 (by rfl) rfl (by decide +kernel) (by decide +kernel) (by decide +kernel))
  | ((with_reducible show S1 _ _ (.Return (some (.Name "out" _)) _) _); exact retOF (by assumption) 3 (by rfl) rfl (by decide +kernel) (by decide +kernel) (by decide +kernel))
  | ((with_reducible show S1 _ _ (.Return (some (.Name "k" _)) _) _); exact retOF (by assumption) 4 (by rfl) rfl (by decide +kernel) (by decide +kernel) (by decide +kernel)))
local macro_rules | `(tactic| wtm_at "tgt") => `(tactic| first
  | ((with_reducible show PG _ (.Name "cell" _) _); exact tgF (by assumption) (by assumption) 0 (by rfl) (by decide +kernel))
  | ((with_reducible show PG _ (.Name "P" _) _); exact tgF (by assumption) (by assumption) 1 (by rfl) (by decide +kernel))
  | ((with_reducible show PG _ (.Name "size" _) _); exact tgF (by assumption) (by assumption) 2 (by rfl) (by decide +kernel))
  | ((with_reducible show PG _ (.Name "out" _) _); exact tgF (by assumption) (by assumption) 3 (by rfl) (by decide +kernel))
  | ((with_reducible show PG _ (.Name "k" _) _); exact tgF (by assumption) (by assumption) 4 (by rfl) (by decide +kernel)))
theorem ok_digits {f : Addr} {fd : FuncData} (F : Fun K "_law_digits" "_law_digits" s__law_digits f fd) (hm : mg "_law_digits" = some (.ref f)) (b : Binds K fd ["cell", "P", "size"] []) (mt : mg "tuple" = none) (mr : mg "range" = none) : Fn P w K mg base 1 "_law_digits" ["cell", "P", "size"] rDigits := by
  refine fnF F hm b sc__law_digits (fun ds r h => by cases h; rfl) fun X hX hT ds r h => ?_
  cases h with
  | @mk c p n h h2 h0 hn =>
    refine' sm_cons ?s1 ?_
    case' s1 => wtm_at "st"
    refine' sm_cons ?s2 ?_
    case' s2 =>
      refine' forR0 hX (n := n.toNat) 4 (fun i => [.dat (.int (dcell c p i)), .dat (.int p), .dat (.int n), .own (.lst ((lawDigits c p i).map .int)), .un]) ?i rfl ?g ?l (fun _ => rfl) (fun i hi => ?b)
      case' i => wtm_at "iter"
      case' g => wtm_at "tgt"
      case' l => wtm_at "le"
      have hl := lawDigits_len c p i
      refine' sm_cons ?s3 ?_
      case' s3 => wtm_at "st"
      refine' sm_le (sm_one ?s4) ?l4
      case' s4 => wtm_at "st"
      rw [lawDigits_succ, List.map_append]
      wtm_at "le"
    refine' sm_end ?s5
    case' s5 => wtm_at "st"
def isInt : PyData → Bool
  | .int _ => true
  | _ => false
inductive rWhole : List PyData → Res → Prop
  | mk {i : Int} : rWhole [.int i] (.ok (.dat (.bool true)))
local macro_rules | `(tactic| wtm_at "nm") => `(tactic| first
  | ((with_reducible show Ev _ _ (.Name "found" _) _); exact nmF (by assumption) 0 (by rfl) rfl (by decide +kernel) (by decide +kernel) (by decide +kernel)))
local macro_rules | `(tactic| wtm_at "own") => `(tactic| first
  | ((with_reducible show EvS _ _ (.Name "found" _) _ _); exact ownF (by assumption) 0 (by rfl) rfl (by decide +kernel) (by decide +kernel) (by decide +kernel)))
local macro_rules | `(tactic| wtm_at "ownl") => `(tactic| first
  | ((with_reducible show EvL _ _ (.Name "found" _) _); exact ownlF (by assumption) 0 (by rfl) rfl (by decide +kernel) (by decide +kernel) (by decide +kernel)))
local macro_rules | `(tactic| wtm_at "set") => `(tactic| first
  | ((with_reducible show S1 _ _ (.Assign [.Name "found" _] _ _) _); refine' setF ?st1 ?st2 0 ?st3 ?st4 ?ste ?st5; (case' st1 => assumption); (case' st2 => assumption); (case' st3 => rfl); (case' st4 => decide +kernel); (case' ste => wtm_at "ev"); (case' st5 => rfl)))
local macro_rules | `(tactic| wtm_at "app") => `(tactic| first
  | ((with_reducible show S1 _ _ (.Expr (.Call (.Attribute (.Name "found" _) _ _) _ _ _) _) _); refine' appF ?ap1 0 ?ap2 ?ap3 ?ap4 ?ape ?aps ?ap5 ?ap6; (case' ap1 => assumption); (case' ap2 => rfl); (case' ap3 => rfl); (case' ap4 => decide +kernel); (case' ape => wtm_at "ev"); (case' aps => try (wtm_at "sz")); (case' ap5 => decide +kernel); (case' ap6 => decide +kernel)))
local macro_rules | `(tactic| wtm_at "put") => `(tactic| first
  | ((with_reducible show S1 _ _ (.Assign [.Subscript (.Name "found" _) _ _] _ _) _); refine' putF ?pu1 0 ?pu2 ?pu3 ?pu4 ?pue ?pui ?pu5 ?pu6 ?pu7 ?pu8; (case' pu1 => assumption); (case' pu2 => rfl); (case' pu3 => rfl); (case' pu4 => decide +kernel); (case' pue => wtm_at "ev"); (case' pui => wtm_at "ev"); (case' pu5 => try (wtm_at "sd")); (case' pu6 => try (wtm_at "sd")); (case' pu7 => decide +kernel); (case' pu8 => decide +kernel)))
local macro_rules | `(tactic| wtm_at "reto") => `(tactic| first
  | ((with_reducible show S1 _ _ (.Return (some (.Name "found" _)) _) _); exact retOF (by assumption) 0 (by rfl) rfl (by decide +kernel) (by decide +kernel) (by decide +kernel)))
local macro_rules | `(tactic| wtm_at "tgt") => `(tactic| first
  | ((with_reducible show PG _ (.Name "found" _) _); exact tgF (by assumption) (by assumption) 0 (by rfl) (by decide +kernel)))
theorem ok_whole {f : Addr} {fd : FuncData} (F : Fun K "_law_whole" "_law_whole" s__law_whole f fd) (hm : mg "_law_whole" = some (.ref f)) (b : Binds K fd ["found"] []) (mi : mg "isinstance" = none) (m1 : mg "int" = none) (m2 : mg "bool" = none) : Fn P w K mg base 1 "_law_whole" ["found"] rWhole := by
  refine fnF F hm b sc__law_whole (fun ds r h => by cases h; rfl) fun X hX hT ds r h => ?_
  cases h with
  | @mk i =>
    refine' sm_end ?s1
    case' s1 => wtm_at "st"
end
end W

namespace W
open PySem PySem.Spec PyProof.Rows L2 LR
section
variable {P : Program} {w : World} {K : PySem.W.Frag} {mg : Str → Option Value} {base : Heap}
def unitAt (n k : Nat) : List Int := List.replicate k 0 ++ [1] ++ List.replicate (n - 1 - k) 0
def starts (n : Nat) : List (List Int) := List.replicate n 0 :: (List.range n).map (unitAt n)
inductive rStarts : List PyData → Res → Prop
  | mk {n : Nat} (h : n ≤ 100) : rStarts [.int n] (.ok (.own (.lst ((starts n).map tI))))
inductive rShape : List PyData → Res → Prop
  | mk {P : Int} {n : Nat} {t : List (List Int)} (h : Tbl P n t) (h9 : n ≤ 100) : rShape [.int P, .int n, tT t] (.ok (.dat (.bool true)))
inductive rLTurned : List PyData → Res → Prop
  | mk {P : Int} {t : List (List Int)} {s : List Int} (h : 0 < P) (ht : ∀ f ∈ t, Frm s.length f) (hz : s.length ≤ 100) (hz2 : t.length ≤ 100) : rLTurned [.int P, tT t, tI s] (.ok (.dat (tI (turned P t s))))
end
end W

namespace W
open PySem PySem.Spec PyProof.Rows L2 LR
section
variable {P : Program} {w : World} {K : PySem.W.Frag} {mg : Str → Option Value} {base : Heap}
inductive rLWorth : List PyData → Res → Prop
  | mk {P : Int} {f s : List Int} (h : 0 < P) (hl : f.length = s.length + 1) (hz : s.length ≤ 100) (hf : ∀ x ∈ f, 0 ≤ x ∧ x < 10000) : rLWorth [.int P, tI f, tI s] (.ok (.dat (.int (worth P f s))))
local macro_rules | `(tactic| wtm_at "nm") => `(tactic| first
  | ((with_reducible show Ev _ _ (.Name "P" _) _); exact nmF (by assumption) 0 (by rfl) rfl (by decide +kernel) (by decide +kernel) (by decide +kernel))
  | ((with_reducible show Ev _ _ (.Name "form" _) _); exact nmF (by assumption) 1 (by rfl) rfl (by decide +kernel) (by decide +kernel) (by decide +kernel))
  | ((with_reducible show Ev _ _ (.Name "stand" _) _); exact nmF (by assumption) 2 (by rfl) rfl (by decide +kernel) (by decide +kernel) (by decide +kernel))
  | ((with_reducible show Ev _ _ (.Name "k" _) _); exact nmF (by assumption) 3 (by rfl) rfl (by decide +kernel) (by decide +kernel) (by decide +kernel)))
local macro_rules | `(tactic| wtm_at "own") => `(tactic| first
  | ((with_reducible show EvS _ _ (.Name "P" _) _ _); exact ownF (by assumption) 0 (by rfl) rfl (by decide +kernel) (by decide +kernel) (by decide +kernel))
  | ((with_reducible show EvS _ _ (.Name "form" _) _ _); exact ownF (by assumption) 1 (by rfl) rfl (by decide +kernel) (by decide +kernel) (by decide +kernel))
  | ((with_reducible show EvS _ _ (.Name "stand" _) _ _); exact ownF (by assumption) 2 (by rfl) rfl (by decide +kernel) (by decide +kernel) (by decide +kernel))
  | ((with_reducible show EvS _ _ (.Name "k" _) _ _); exact ownF (by assumption) 3 (by rfl) rfl (by decide +kernel) (by decide +kernel) (by decide +kernel)))
local macro_rules | `(tactic| wtm_at "ownl") => `(tactic| first
  | ((with_reducible show EvL _ _ (.Name "P" _) _); exact ownlF (by assumption) 0 (by rfl) rfl (by decide +kernel) (by decide +kernel) (by decide +kernel))
  | ((with_reducible show EvL _ _ (.Name "form" _) _); exact ownlF (by assumption) 1 (by rfl) rfl (by decide +kernel) (by decide +kernel) (by decide +kernel))
  | ((with_reducible show EvL _ _ (.Name "stand" _) _); exact ownlF (by assumption) 2 (by rfl) rfl (by decide +kernel) (by decide +kernel) (by decide +kernel))
  | ((with_reducible show EvL _ _ (.Name "k" _) _); exact ownlF (by assumption) 3 (by rfl) rfl (by decide +kernel) (by decide +kernel) (by decide +kernel)))
local macro_rules | `(tactic| wtm_at "set") => `(tactic| first
  | ((with_reducible show S1 _ _ (.Assign [.Name "P" _] _ _) _); refine' setF ?st1 ?st2 0 ?st3 ?st4 ?ste ?st5; (case' st1 => assumption); (case' st2 => assumption); (case' st3 => rfl); (case' st4 => decide +kernel); (case' ste => wtm_at "ev"); (case' st5 => rfl))
  | ((with_reducible show S1 _ _ (.Assign [.Name "form" _] _ _) _); refine' setF ?st1 ?st2 1 ?st3 ?st4 ?ste ?st5; (case' st1 => assumption); (case' st2 => assumption); (case' st3 => rfl); (case' st4 => decide +kernel); (case' ste => wtm_at "ev"); (case' st5 => rfl))
  | ((with_reducible show S1 _ _ (.Assign [.Name "stand" _] _ _) _); refine' setF ?st1 ?st2 2 ?st3 ?st4 ?ste ?st5; (case' st1 => assumption); (case' st2 => assumption); (case' st3 => rfl); (case' st4 => decide +kernel); (case' ste => wtm_at "ev"); (case' st5 => rfl)))
local macro_rules | `(tactic| wtm_at "app") => `(tactic| first
  | ((with_reducible show S1 _ _ (.Expr (.Call (.Attribute (.Name "P" _) _ _) _ _ _) _) _); refine' appF ?ap1 0 ?ap2 ?ap3 ?ap4 ?ape ?aps ?ap5 ?ap6; (case' ap1 => assumption); (case' ap2 => rfl); (case' ap3 => rfl); (case' ap4 => decide +kernel); (case' ape => wtm_at "ev"); (case' aps => try (wtm_at "sz")); (case' ap5 => decide +kernel); (case' ap6 => decide +kernel))
  | ((with_reducible show S1 _ _ (.Expr (.Call (.Attribute (.Name "form" _) _ _) _ _ _) _) _); refine' appF ?ap1 1 ?ap2 ?ap3 ?ap4 ?ape ?aps ?ap5 ?ap6; (case' ap1 => assumption); (case' ap2 => rfl); (case' ap3 => rfl); (case' ap4 => decide +kernel); (case' ape => wtm_at "ev"); (case' aps => try (wtm_at "sz")); (case' ap5 => decide +kernel); (case' ap6 => decide +kernel))
  | ((with_reducible show S1 _ _ (.Expr (.Call (.Attribute (.Name "stand" _) _ _) _ _ _) _) _); refine' appF ?ap1 2 ?ap2 ?ap3 ?ap4 ?ape ?aps ?ap5 ?ap6; (case' ap1 => assumption); (case' ap2 => rfl); (case' ap3 => rfl); (case' ap4 => decide +kernel); (case' ape => wtm_at "ev"); (case' aps => try (wtm_at "sz")); (case' ap5 => decide +kernel); (case' ap6 => decide +kernel)))
local macro_rules | `(tactic| wtm_at "put") => `(tactic| first
  | ((with_reducible show S1 _ _ (.Assign [.Subscript (.Name "P" _) _ _] _ _) _); refine' putF ?pu1 0 ?pu2 ?pu3 ?pu4 ?pue ?pui ?pu5 ?pu6 ?pu7 ?pu8; (case' pu1 => assumption); (case' pu2 => rfl); (case' pu3 => rfl); (case' pu4 => decide +kernel); (case' pue => wtm_at "ev"); (case' pui => wtm_at "ev"); (case' pu5 => try (wtm_at "sd")); (case' pu6 => try (wtm_at "sd")); (case' pu7 => decide +kernel); (case' pu8 => decide +kernel))
  | ((with_reducible show S1 _ _ (.Assign [.Subscript (.Name "form" _) _ _] _ _) _); refine' putF ?pu1 1 ?pu2 ?pu3 ?pu4 ?pue ?pui ?pu5 ?pu6 ?pu7 ?pu8; (case' pu1 => assumption); (case' pu2 => rfl); (case' pu3 => rfl); (case' pu4 => decide +kernel); (case' pue => wtm_at "ev"); (case' pui => wtm_at "ev"); (case' pu5 => try (wtm_at "sd")); (case' pu6 => try (wtm_at "sd")); (case' pu7 => decide +kernel); (case' pu8 => decide +kernel))
  | ((with_reducible show S1 _ _ (.Assign [.Subscript (.Name "stand" _) _ _] _ _) _); refine' putF ?pu1 2 ?pu2 ?pu3 ?pu4 ?pue ?pui ?pu5 ?pu6 ?pu7 ?pu8; (case' pu1 => assumption); (case' pu2 => rfl); (case' pu3 => rfl); (case' pu4 => decide +kernel); (case' pue => wtm_at "ev"); (case' pui => wtm_at "ev"); (case' pu5 => try (wtm_at "sd")); (case' pu6 => try (wtm_at "sd")); (case' pu7 => decide +kernel); (case' pu8 => decide +kernel)))
local macro_rules | `(tactic| wtm_at "reto") => `(tactic| first
  | ((with_reducible show S1 _ _ (.Return (some (.Name "P" _)) _) _); exact retOF (by assumption) 0 (by rfl) rfl (by decide +kernel) (by decide +kernel) (by decide +kernel))
  | ((with_reducible show S1 _ _ (.Return (some (.Name "form" _)) _) _); exact retOF (by assumption) 1 (by rfl) rfl (by decide +kernel) (by decide +kernel) (by decide +kernel))
  | ((with_reducible show S1 _ _ (.Return (some (.Name "stand" _)) _) _); exact retOF (by assumption) 2 (by rfl) rfl (by decide +kernel) (by decide +kernel) (by decide +kernel)))
local macro_rules | `(tactic| wtm_at "tgt") => `(tactic| first
  | ((with_reducible show PG _ (.Name "P" _) _); exact tgF (by assumption) (by assumption) 0 (by rfl) (by decide +kernel))
  | ((with_reducible show PG _ (.Name "form" _) _); exact tgF (by assumption) (by assumption) 1 (by rfl) (by decide +kernel))
  | ((with_reducible show PG _ (.Name "stand" _) _); exact tgF (by assumption) (by assumption) 2 (by rfl) (by decide +kernel)))
theorem ok_lworth {f : Addr} {fd : FuncData} (F : Fun K "_law_worth" "_law_worth" s__law_worth f fd) (hm : mg "_law_worth" = some (.ref f)) (b : Binds K fd ["P", "form", "stand"] []) (ml : mg "len" = none) (mr : mg "range" = none) (ms : mg "sum" = none) :
    Fn P w K mg base 1 "_law_worth" ["P", "form", "stand"] rLWorth := by
  refine fnF F hm b sc__law_worth (fun ds r h => by cases h; rfl) fun X hX hT ds r h => ?_
  cases h with
  | @mk p f s hp hl hz hf =>
    refine' sm_end (s1_retE ?e1 ?e2)
    case' e1 =>
      refine' ev_bin (d1 := .int (wsum f s s.length)) ?m1 ?m2 (BinD.mod hp)
      case' m2 => wtm_at "ev"
      case' m1 =>
        refine' ev_eq (ev_bin ?n1 (sumF hX ?g ms (evs_eq (evs_new ?lc) ?ee)) BinD.add) ?n3
        case' n1 => wtm_at "ev"
        case' g => decide +kernel
        case' lc =>
          refine' lcF hX 3 (List.range s.length) (fun k : Nat => .int k) (fun k : Nat => .int (f.getD k 0 * s.getD k 0)) ?i ?sr ?ok ?nn ?lx ?zz ?jj fun Y hY z hz => ?e3
          case' i => wtm_at "iter"
          case' sr => simp
          case' ok => decide +kernel
          case' nn => rfl
          case' lx => decide +kernel
          case' zz => wtm_at "sz"
          case' jj => rfl
          case' e3 =>
            have hz1 : z < s.length := List.mem_range.mp hz
            have hm : CMul (f.getD z 0) (s.getD z 0) := .inl (by have := hf _ (getD_mem (z := 0) (show z < f.length by omega)); omega)
            wtm_at "ev"
        case' ee => exact (List.map_map (f := fun k : Nat => f.getD k 0 * s.getD k 0) (g := PyData.int)).symm
        case n3 => simp [wsum, hl]
    case e2 => rfl
local macro_rules | `(tactic| wtm_at "nm") => `(tactic| first
  | ((with_reducible show Ev _ _ (.Name "P" _) _); exact nmF (by assumption) 0 (by rfl) rfl (by decide +kernel) (by decide +kernel) (by decide +kernel))
  | ((with_reducible show Ev _ _ (.Name "table" _) _); exact nmF (by assumption) 1 (by rfl) rfl (by decide +kernel) (by decide +kernel) (by decide +kernel))
  | ((with_reducible show Ev _ _ (.Name "stand" _) _); exact nmF (by assumption) 2 (by rfl) rfl (by decide +kernel) (by decide +kernel) (by decide +kernel))
  | ((with_reducible show Ev _ _ (.Name "form" _) _); exact nmF (by assumption) 3 (by rfl) rfl (by decide +kernel) (by decide +kernel) (by decide +kernel)))
local macro_rules | `(tactic| wtm_at "own") => `(tactic| first
  | ((with_reducible show EvS _ _ (.Name "P" _) _ _); exact ownF (by assumption) 0 (by rfl) rfl (by decide +kernel) (by decide +kernel) (by decide +kernel))
  | ((with_reducible show EvS _ _ (.Name "table" _) _ _); exact ownF (by assumption) 1 (by rfl) rfl (by decide +kernel) (by decide +kernel) (by decide +kernel))
  | ((with_reducible show EvS _ _ (.Name "stand" _) _ _); exact ownF (by assumption) 2 (by rfl) rfl (by decide +kernel) (by decide +kernel) (by decide +kernel))
  | ((with_reducible show EvS _ _ (.Name "form" _) _ _); exact ownF (by assumption) 3 (by rfl) rfl (by decide +kernel) (by decide +kernel) (by decide +kernel)))
local macro_rules | `(tactic| wtm_at "ownl") => `(tactic| first
  | ((with_reducible show EvL _ _ (.Name "P" _) _); exact ownlF (by assumption) 0 (by rfl) rfl (by decide +kernel) (by decide +kernel) (by decide +kernel))
  | ((with_reducible show EvL _ _ (.Name "table" _) _); exact ownlF (by assumption) 1 (by rfl) rfl (by decide +kernel) (by decide +kernel) (by decide +kernel))
  | ((with_reducible show EvL _ _ (.Name "stand" _) _); exact ownlF (by assumption) 2 (by rfl) rfl (by decide +kernel) (by decide +kernel) (by decide +kernel))
  | ((with_reducible show EvL _ _ (.Name "form" _) _); exact ownlF (by assumption) 3 (by rfl) rfl (by decide +kernel) (by decide +kernel) (by decide +kernel)))
local macro_rules | `(tactic| wtm_at "set") => `(tactic| first
  | ((with_reducible show S1 _ _ (.Assign [.Name "P" _] _ _) _); refine' setF ?st1 ?st2 0 ?st3 ?st4 ?ste ?st5; (case' st1 => assumption); (case' st2 => assumption); (case' st3 => rfl); (case' st4 => decide +kernel); (case' ste => wtm_at "ev"); (case' st5 => rfl))
  | ((with_reducible show S1 _ _ (.Assign [.Name "table" _] _ _) _); refine' setF ?st1 ?st2 1 ?st3 ?st4 ?ste ?st5; (case' st1 => assumption); (case' st2 => assumption); (case' st3 => rfl); (case' st4 => decide +kernel); (case' ste => wtm_at "ev"); (case' st5 => rfl))
  | ((with_reducible show S1 _ _ (.Assign [.Name "stand" _] _ _) _); refine' setF ?st1 ?st2 2 ?st3 ?st4 ?ste ?st5; (case' st1 => assumption); (case' st2 => assumption); (case' st3 => rfl); (case' st4 => decide +kernel); (case' ste => wtm_at "ev"); (case' st5 => rfl)))
local macro_rules | `(tactic| wtm_at "app") => `(tactic| first
  | ((with_reducible show S1 _ _ (.Expr (.Call (.Attribute (.Name "P" _) _ _) _ _ _) _) _); refine' appF ?ap1 0 ?ap2 ?ap3 ?ap4 ?ape ?aps ?ap5 ?ap6; (case' ap1 => assumption); (case' ap2 => rfl); (case' ap3 => rfl); (case' ap4 => decide +kernel); (case' ape => wtm_at "ev"); (case' aps => try (wtm_at "sz")); (case' ap5 => decide +kernel); (case' ap6 => decide +kernel))
  | ((with_reducible show S1 _ _ (.Expr (.Call (.Attribute (.Name "table" _) _ _) _ _ _) _) _); refine' appF ?ap1 1 ?ap2 ?ap3 ?ap4 ?ape ?aps ?ap5 ?ap6; (case' ap1 => assumption); (case' ap2 => rfl); (case' ap3 => rfl); (case' ap4 => decide +kernel); (case' ape => wtm_at "ev"); (case' aps => try (wtm_at "sz")); (case' ap5 => decide +kernel); (case' ap6 => decide +kernel))
  | ((with_reducible show S1 _ _ (.Expr (.Call (.Attribute (.Name "stand" _) _ _) _ _ _) _) _); refine' appF ?ap1 2 ?ap2 ?ap3 ?ap4 ?ape ?aps ?ap5 ?ap6; (case' ap1 => assumption); (case' ap2 => rfl); (case' ap3 => rfl); (case' ap4 => decide +kernel); (case' ape => wtm_at "ev"); (case' aps => try (wtm_at "sz")); (case' ap5 => decide +kernel); (case' ap6 => decide +kernel)))
local macro_rules | `(tactic| wtm_at "put") => `(tactic| first
  | ((with_reducible show S1 _ _ (.Assign [.Subscript (.Name "P" _) _ _] _ _) _); refine' putF ?pu1 0 ?pu2 ?pu3 ?pu4 ?pue ?pui ?pu5 ?pu6 ?pu7 ?pu8; (case' pu1 => assumption); (case' pu2 => rfl); (case' pu3 => rfl); (case' pu4 => decide +kernel); (case' pue => wtm_at "ev"); (case' pui => wtm_at "ev"); (case' pu5 => try (wtm_at "sd")); (case' pu6 => try (wtm_at "sd")); (case' pu7 => decide +kernel); (case' pu8 => decide +kernel))
  | ((with_reducible show S1 _ _ (.Assign [.Subscript (.Name "table" _) _ _] _ _) _); refine' putF ?pu1 1 ?pu2 ?pu3 ?pu4 ?pue ?pui ?pu5 ?pu6 ?pu7 ?pu8; (case' pu1 => assumption); (case' pu2 => rfl); (case' pu3 => rfl); (case' pu4 => decide +kernel); (case' pue => wtm_at "ev"); (case' pui => wtm_at "ev"); (case' pu5 => try (wtm_at "sd")); (case' pu6 => try (wtm_at "sd")); (case' pu7 => decide +kernel); (case' pu8 => decide +kernel))
  | ((with_reducible show S1 _ _ (.Assign [.Subscript (.Name "stand" _) _ _] _ _) _); refine' putF ?pu1 2 ?pu2 ?pu3 ?pu4 ?pue ?pui ?pu5 ?pu6 ?pu7 ?pu8; (case' pu1 => assumption); (case' pu2 => rfl); (case' pu3 => rfl); (case' pu4 => decide +kernel); (case' pue => wtm_at "ev"); (case' pui => wtm_at "ev"); (case' pu5 => try (wtm_at "sd")); (case' pu6 => try (wtm_at "sd")); (case' pu7 => decide +kernel); (case' pu8 => decide +kernel)))
local macro_rules | `(tactic| wtm_at "reto") => `(tactic| first
  | ((with_reducible show S1 _ _ (.Return (some (.Name "P" _)) _) _); exact retOF (by assumption) 0 (by rfl) rfl (by decide +kernel) (by decide +kernel) (by decide +kernel))
  | ((with_reducible show S1 _ _ (.Return (some (.Name "table" _)) _) _); exact retOF (by assumption) 1 (by rfl) rfl (by decide +kernel) (by decide +kernel) (by decide +kernel))
  | ((with_reducible show S1 _ _ (.Return (some (.Name "stand" _)) _) _); exact retOF (by assumption) 2 (by rfl) rfl (by decide +kernel) (by decide +kernel) (by decide +kernel)))
local macro_rules | `(tactic| wtm_at "tgt") => `(tactic| first
  | ((with_reducible show PG _ (.Name "P" _) _); exact tgF (by assumption) (by assumption) 0 (by rfl) (by decide +kernel))
  | ((with_reducible show PG _ (.Name "table" _) _); exact tgF (by assumption) (by assumption) 1 (by rfl) (by decide +kernel))
  | ((with_reducible show PG _ (.Name "stand" _) _); exact tgF (by assumption) (by assumption) 2 (by rfl) (by decide +kernel)))
theorem ok_lturned {f : Addr} {fd : FuncData} (F : Fun K "_law_turned" "_law_turned" s__law_turned f fd) (hm : mg "_law_turned" = some (.ref f)) (b : Binds K fd ["P", "table", "stand"] []) (mt : mg "tuple" = none) (Gw : Fn P w K mg base 1 "_law_worth" ["P", "form", "stand"] rLWorth) :
    Fn P w K mg base 2 "_law_turned" ["P", "table", "stand"] rLTurned := by
  refine fnF F hm b sc__law_turned (fun ds r h => by cases h; rfl) fun X hX hT ds r h => ?_
  cases h with
  | @mk p t s hp ht hz hz2 =>
    refine' sm_end (s1_retE ?s1 ?e)
    case' s1 =>
      refine' tupleF hX ?g mt (evs_new ?lc)
      case' g => decide +kernel
      case' lc =>
        refine' lcF hX 3 t tI (fun f => .int (worth p f s)) ?i ?sr ?ok ?nn ?lx ?zz ?jj fun Y hY f hf => ?b
        case' i => wtm_at "iter"
        case' sr => rfl
        case' ok => decide +kernel
        case' nn => rfl
        case' lx => decide +kernel
        case' zz => wtm_at "sz"
        case' jj => rfl
        case' b =>
          have h1 := (ht f hf).1
          have h2 := (ht f hf).2
          wtm_at "call"
    case e => simp [turned, tI]
end
end W

namespace W
/-! worths, starts -/
theorem unit_len {n x : Nat} (h : x < n) : (unitAt n x).length = n := by simp [unitAt]; omega
theorem unit_get {n x i : Nat} (h : x < n) (hi : i < n) : (unitAt n x).getD i 0 = if i = x then 1 else 0 := by
  unfold unitAt
  have e1 : (List.replicate x (0:Int) ++ [1]).length = x + 1 := by simp
  rw [List.getD_eq_getElem?_getD]
  by_cases h1 : i < x + 1
  · rw [List.getElem?_append_left (by rw [e1]; exact h1)]
    by_cases h2 : i < x
    · rw [List.getElem?_append_left (by simpa using h2), List.getElem?_replicate, if_pos h2, if_neg (by omega)]; rfl
    · have e : i = x := by omega
      subst e
      rw [List.getElem?_append_right (by simp), if_pos rfl]; simp
  · rw [List.getElem?_append_right (by rw [e1]; omega), e1, List.getElem?_replicate, if_pos (by omega), if_neg (by omega)]; rfl
theorem box_unit {n x : Nat} (h : x < n) : boxForm n (x : Int) = unitAt n x ++ [0] := by
  refine ext_getD 0 (by rw [(boxForm_frm n x).1, List.length_append, unit_len h]; rfl) fun i hi => ?_
  rw [(boxForm_frm n x).1] at hi
  rw [box_get hi]
  by_cases h1 : i < n
  · have e := unit_get h h1
    rw [List.getD_eq_getElem?_getD] at e ⊢
    rw [List.getElem?_append_left (by rw [unit_len h]; exact h1), e]
  · have h2 : i = n := by omega
    rw [List.getD_eq_getElem?_getD, List.getElem?_append_right (by rw [unit_len h]; omega), unit_len h, if_neg (by omega), h2]
    simp
theorem idle_starts (n : Nat) : (((starts n).drop 1).map fun s => s ++ [0]) = idle n := by
  show ((List.range n).map (unitAt n)).map _ = _
  unfold idle
  rw [List.map_map]
  exact List.map_congr_left fun x hx => (box_unit (List.mem_range.mp hx)).symm
theorem wsum_sm (f s : List Int) : ∀ k, wsum f s k = f.getD s.length 0 + sm k fun j => f.getD j 0 * s.getD j 0
  | 0 => by simp [wsum, sm]
  | k + 1 => by
    rw [wsum_succ, wsum_sm f s k]
    show _ = _ + (sm k _ + f.getD k 0 * s.getD k 0)
    omega
theorem worth_eq {P : Int} {n : Nat} {f s : List Int} (hs : s.length = n) : worth P f s = (f.getD n 0 + sm n fun j => f.getD j 0 * s.getD j 0) % P := by
  unfold worth
  rw [wsum_sm, hs]
theorem worth_on {P : Int} {f s : List Int} (h : 0 < P) : 0 ≤ worth P f s ∧ worth P f s < P := ⟨Int.emod_nonneg _ (by omega), Int.emod_lt_of_pos _ h⟩
theorem worth_box {P : Int} {n x : Nat} {s : List Int} (hs : s.length = n) (hx : x < n) (ho : OnW P s) : worth P (boxForm n x) s = s.getD x 0 := by
  rw [worth_eq hs, box_get (by omega), if_neg (by omega)]
  have e : (sm n fun j => (boxForm n (x : Int)).getD j 0 * s.getD j 0) = sm n fun j => if j = x then s.getD j 0 else 0 :=
    sm_congr fun j hj => by
      rw [box_get (by omega)]
      by_cases h : j = x
      · simp [h]
      · simp [h]
  rw [e, sm_pick, if_pos hx, Int.zero_add]
  obtain ⟨a, b⟩ := ho _ (getD_mem (z := 0) (show x < s.length by omega))
  exact Int.emod_eq_of_lt a b
theorem turned_idle {P : Int} {n : Nat} {s : List Int} (hs : s.length = n) (ho : OnW P s) : turned P (idle n) s = s := by
  refine ext_getD 0 (by simp [turned, idle_len, hs]) fun i hi => ?_
  have hi : i < n := by simpa [turned, idle_len] using hi
  unfold turned
  rw [getD_map _ [] 0 (by rw [idle_len]; exact hi)]
  have e : (idle n).getD i [] = boxForm n i := by unfold idle; rw [getD_rangeMap _ _ hi]
  rw [e, worth_box hs hi ho]
theorem turned_len (P : Int) (t : List (List Int)) (s : List Int) : (turned P t s).length = t.length := by simp [turned]
theorem turned_on {P : Int} {t : List (List Int)} {s : List Int} (h : 0 < P) : OnW P (turned P t s) := fun x hx => by
  simp only [turned, List.mem_map] at hx
  obtain ⟨f, _, rfl⟩ := hx
  exact worth_on h
theorem turned_get {P : Int} {t : List (List Int)} {s : List Int} {k : Nat} (h : k < t.length) : (turned P t s).getD k 0 = worth P (t.getD k []) s := getD_map _ [] 0 h
/-- one and then other turns as one, and then other -/
theorem turned_then {P : Int} {n : Nat} {a b : List (List Int)} {s : List Int} (hP : 0 < P) (hn : 1 ≤ n) (ha : Tbl P n a) (hb : Tbl P n b) (hs : s.length = n) : turned P (thenT P a b) s = turned P b (turned P a s) := by
  have hab := then_tbl hP hn ha hb
  have lt : (turned P a s).length = n := by rw [turned_len, ha.len]
  refine ext_getD 0 (by rw [turned_len, turned_len, hab.len, hb.len]) fun k hk => ?_
  have hk : k < n := by rw [turned_len, hab.len] at hk; exact hk
  rw [turned_get (by rw [hab.len]; exact hk), turned_get (by rw [hb.len]; exact hk), worth_eq hs, worth_eq lt]
  show Em P _ _
  have e1 : Em P (((thenT P a b).getD k []).getD n 0) ((b.getD k []).getD n 0 + sm n fun j => (b.getD k []).getD j 0 * (a.getD j []).getD n 0) := by
    rw [then_num hn ha hb hk (by omega)]
    refine Em.mod.trans (Em.of_eq ?_)
    simp [ini]
  have e2 : Em P (sm n fun i => ((thenT P a b).getD k []).getD i 0 * s.getD i 0) (sm n fun i => (sm n fun j => (b.getD k []).getD j 0 * (a.getD j []).getD i 0) * s.getD i 0) :=
    Em.sm fun i hi => Em.mul (by
      rw [then_num hn ha hb hk (by omega)]
      refine Em.mod.trans (Em.of_eq ?_)
      simp [ini, show i ≠ n by omega]) Em.refl
  have e3 : Em P (sm n fun j => (b.getD k []).getD j 0 * (turned P a s).getD j 0) (sm n fun j => (b.getD k []).getD j 0 * ((a.getD j []).getD n 0 + sm n fun i => (a.getD j []).getD i 0 * s.getD i 0)) :=
    Em.sm fun j hj => Em.refl.mul (by
      rw [turned_get (by rw [ha.len]; exact hj), worth_eq hs]
      exact Em.mod)
  refine (e1.add e2).trans (Em.trans (Em.of_eq ?_) (Em.refl.add e3).symm)
  have e4 : (sm n fun j => (b.getD k []).getD j 0 * ((a.getD j []).getD n 0 + sm n fun i => (a.getD j []).getD i 0 * s.getD i 0)) =
      (sm n fun j => (b.getD k []).getD j 0 * (a.getD j []).getD n 0) + sm n fun j => sm n fun i => (b.getD k []).getD j 0 * (a.getD j []).getD i 0 * s.getD i 0 := by
    rw [← sm_add]
    refine sm_congr fun j _ => ?_
    rw [Int.mul_add, ← sm_mulL]
    congr 1
    exact sm_congr fun l _ => (Int.mul_assoc _ _ _).symm
  have e5 : (sm n fun i => (sm n fun j => (b.getD k []).getD j 0 * (a.getD j []).getD i 0) * s.getD i 0) = sm n fun j => sm n fun i => (b.getD k []).getD j 0 * (a.getD j []).getD i 0 * s.getD i 0 := by
    rw [sm_swap]
    exact sm_congr fun l _ => sm_mulR.symm
  rw [e4, e5]
  omega
theorem starts_mem {P : Int} {n : Nat} (hP : 1 < P) : ∀ s ∈ starts n, s.length = n ∧ OnW P s := fun s hs => by
  rcases List.mem_cons.mp hs with rfl | h
  · refine ⟨by simp, fun x hx => ?_⟩
    rw [List.eq_of_mem_replicate hx]; omega
  · rw [List.mem_map] at h
    obtain ⟨x, hx, rfl⟩ := h
    refine ⟨unit_len (List.mem_range.mp hx), fun y hy => ?_⟩
    unfold unitAt at hy
    rw [List.mem_append, List.mem_append] at hy
    rcases hy with (h | h) | h
    · rw [List.eq_of_mem_replicate h]; omega
    · rw [List.mem_singleton] at h; omega
    · rw [List.eq_of_mem_replicate h]; omega
theorem worth_zero {P : Int} {n : Nat} {f : List Int} (hf : f.length = n + 1) (ho : OnW P f) : worth P f (List.replicate n 0) = f.getD n 0 := by
  rw [worth_eq (List.length_replicate ..)]
  have e : (sm n fun j => f.getD j 0 * (List.replicate n (0:Int)).getD j 0) = 0 := by
    rw [show (0:Int) = sm n fun _ => 0 from sm_zero.symm]
    refine sm_congr fun j hj => ?_
    rw [List.getD_eq_getElem?_getD (l := List.replicate n _), List.getElem?_replicate, if_pos hj, sm_zero]
    simp
  rw [e, Int.add_zero]
  obtain ⟨a, b⟩ := ho _ (getD_mem (z := 0) (show n < f.length by omega))
  exact Int.emod_eq_of_lt a b
theorem worth_unit {P : Int} {n x : Nat} {f : List Int} (hx : x < n) : Em P (worth P f (unitAt n x)) (f.getD n 0 + f.getD x 0) := by
  rw [worth_eq (unit_len hx)]
  refine Em.mod.trans (Em.of_eq ?_)
  have e : (sm n fun j => f.getD j 0 * (unitAt n x).getD j 0) = sm n fun j => if j = x then f.getD j 0 else 0 :=
    sm_congr fun j hj => by
      rw [unit_get hx hj]
      by_cases h : j = x
      · simp [h]
      · simp [h]
  rw [e, sm_pick, if_pos hx]
/-- a form's numbers, told by its worths at the starts -/
theorem form_told {P : Int} {n : Nat} {f : List Int} (hf : f.length = n + 1) (ho : OnW P f) :
    f = ((List.range n).map fun x => (worth P f (unitAt n x) - worth P f (List.replicate n 0)) % P) ++ [worth P f (List.replicate n 0)] := by
  rw [worth_zero hf ho]
  refine ext_getD 0 (by simp [hf]) fun i hi => ?_
  by_cases h : i < n
  · obtain ⟨a, b⟩ := ho _ (getD_mem (z := 0) (show i < f.length by omega))
    have e : ((List.range n).map (fun x => (worth P f (unitAt n x) - f.getD n 0) % P) ++ [f.getD n 0]).getD i 0 = (worth P f (unitAt n i) - f.getD n 0) % P := by
      rw [List.getD_eq_getElem?_getD, List.getElem?_append_left (by simpa using h), List.getElem?_map, List.getElem?_range h]
      rfl
    rw [e]
    have e2 : Em P (worth P f (unitAt n i) - f.getD n 0) (f.getD i 0) := ((worth_unit h).sub Em.refl).trans (Em.of_eq (by omega))
    rw [show (worth P f (unitAt n i) - f.getD n 0) % P = f.getD i 0 % P from e2, Int.emod_eq_of_lt a b]
  · have h2 : i = n := by omega
    subst h2
    rw [List.getD_eq_getElem?_getD (l := _ ++ _), List.getElem?_append_right (by simp)]
    simp
end W

namespace W
open PySem PySem.Spec PyProof.Rows L2 LR
/-! rounds of a table -/
def dbl (P : Int) (t : List (List Int)) : Nat → List (List Int)
  | 0 => t
  | k + 1 => thenT P (dbl P t k) (dbl P t k)
def bitsN (m : Nat) : Nat := if m = 0 then 0 else m.log2 + 1
theorem bits_lt {m i : Nat} : i < bitsN m ↔ 0 < m / 2 ^ i := by
  unfold bitsN
  by_cases h : m = 0
  · simp [h]
  · rw [if_neg h, Nat.lt_succ_iff, Nat.le_log2 h, Nat.div_pos_iff]
    have : 0 < 2 ^ i := Nat.two_pow_pos i
    omega
theorem half_succ (m i : Nat) : m / 2 ^ (i + 1) = m / 2 ^ i / 2 := by rw [Nat.pow_succ, Nat.div_div_eq_div_mul]
theorem bits_hi {m k : Nat} (h : m < 2 ^ k) : bitsN m ≤ k := by
  rcases Nat.lt_or_ge k (bitsN m) with z | z
  · have := bits_lt.mp z
    rw [Nat.div_eq_of_lt h] at this
    omega
  · exact z
def ladderT (P : Int) (t : List (List Int)) (m : Nat) : List (List (List Int)) := (List.range (bitsN m)).map (dbl P t)
def rnd (P : Int) (n : Nat) (t : List (List Int)) (m : Nat) : Nat → List (List Int)
  | 0 => idle n
  | i + 1 => if m / 2 ^ i % 2 = 1 then thenT P (rnd P n t m i) (dbl P t i) else rnd P n t m i
def roundsT (P : Int) (n : Nat) (t : List (List Int)) (m : Nat) : List (List Int) := rnd P n t m (bitsN m)
theorem dbl_tbl {P : Int} {n : Nat} {t : List (List Int)} (hP : 0 < P) (hn : 1 ≤ n) (h : Tbl P n t) : ∀ k, Tbl P n (dbl P t k)
  | 0 => h
  | k + 1 => then_tbl hP hn (dbl_tbl hP hn h k) (dbl_tbl hP hn h k)
theorem rnd_tbl {P : Int} {n : Nat} {t : List (List Int)} {m : Nat} (hP : 1 < P) (hn : 1 ≤ n) (h : Tbl P n t) : ∀ k, Tbl P n (rnd P n t m k)
  | 0 => idle_tbl hP
  | k + 1 => by
    show Tbl P n (if _ then _ else _)
    split
    · exact then_tbl (by omega) hn (rnd_tbl hP hn h k) (dbl_tbl (by omega) hn h k)
    · exact rnd_tbl hP hn h k
/-- so many times the table -/
def pw (P : Int) (n : Nat) (t : List (List Int)) : Nat → List (List Int)
  | 0 => idle n
  | k + 1 => thenT P (pw P n t k) t
section
variable {P : Int} {n : Nat} {t : List (List Int)} (hP : 1 < P) (hn : 1 ≤ n) (h : Tbl P n t)
include hP hn h
theorem pw_tbl : ∀ k, Tbl P n (pw P n t k)
  | 0 => idle_tbl hP
  | k + 1 => then_tbl (by omega) hn (pw_tbl k) h
theorem pw_one : pw P n t 1 = t := idle_then hP hn h
theorem pw_add (a : Nat) : ∀ b, thenT P (pw P n t a) (pw P n t b) = pw P n t (a + b)
  | 0 => then_idle hP hn (pw_tbl hP hn h a)
  | b + 1 => by
    show thenT P (pw P n t a) (thenT P (pw P n t b) t) = thenT P (pw P n t (a + b)) t
    rw [← pw_add a b, then_assoc (by omega) hn (pw_tbl hP hn h a) (pw_tbl hP hn h b) h]
theorem pw_mul (a : Nat) : ∀ b, pw P n (pw P n t a) b = pw P n t (a * b)
  | 0 => rfl
  | b + 1 => by
    show thenT P (pw P n (pw P n t a) b) (pw P n t a) = pw P n t (a * (b + 1))
    rw [pw_mul a b, pw_add hP hn h, Nat.mul_succ]
theorem dbl_pw : ∀ k, dbl P t k = pw P n t (2 ^ k)
  | 0 => (pw_one hP hn h).symm
  | k + 1 => by
    show thenT P (dbl P t k) (dbl P t k) = _
    rw [dbl_pw k, pw_add hP hn h, Nat.pow_succ]
    congr 1
    omega
theorem rnd_pw (m : Nat) : ∀ k, rnd P n t m k = pw P n t (m % 2 ^ k)
  | 0 => by rw [Nat.pow_zero, Nat.mod_one]; rfl
  | k + 1 => by
    show (if _ then _ else _) = _
    rw [rnd_pw m k, dbl_pw hP hn h k]
    have e : m % 2 ^ (k + 1) = m % 2 ^ k + 2 ^ k * (m / 2 ^ k % 2) := by rw [Nat.pow_succ, Nat.mod_mul]
    rcases Nat.mod_two_eq_zero_or_one (m / 2 ^ k) with z | z
    · rw [if_neg (by omega), e, z, Nat.mul_zero, Nat.add_zero]
    · rw [if_pos z, pw_add hP hn h, e, z, Nat.mul_one]
theorem rounds_pw (m : Nat) : roundsT P n t m = pw P n t m := by
  unfold roundsT
  rw [rnd_pw hP hn h]
  congr 1
  refine Nat.mod_eq_of_lt ?_
  rcases Nat.lt_or_ge m (2 ^ bitsN m) with z | z
  · exact z
  · have := Nat.div_pos z (Nat.two_pow_pos _)
    have := bits_lt.mpr this
    omega
end
section
variable {P : Program} {w : World} {K : PySem.W.Frag} {mg : Str → Option Value} {base : Heap}
inductive rLadder : List PyData → Res → Prop
  | mk {P : Int} {n m : Nat} {t : List (List Int)} (h : 0 < P) (h9 : P ≤ 9999) (hn : 1 ≤ n) (hn2 : n ≤ 100) (ht : Tbl P n t) (hm : m < 2 ^ 1000) : rLadder [.int P, tT t, .int m] (.ok (.own (.lst ((ladderT P t m).map tT))))
theorem rThen_of {P : Int} {n : Nat} {one other : List (List Int)} (h : 0 < P) (h9 : P ≤ 9999) (hn : n ≤ 100) (h1 : Tbl P n one) (h2 : Tbl P n other) : rThen [.int P, tT one, tT other] (.ok (.dat (tT (thenT P one other)))) :=
  .mk h (by rw [h1.len]; exact hn) (by rw [h2.len]; exact hn) (h1.frm' h9) (by rw [h1.len]; exact h2.frm h9)
theorem eva_eq {X : Cx} {A : List C} {es : List Expr} {ds ds' : List PyData} (h : EvA X A es ds) (e : ds = ds') : EvA X A es ds' := e ▸ h
local macro_rules | `(tactic| wtm_at "R") => `(tactic| first
  | (refine' rThen_of ?tr1 ?tr2 ?tr3 ?tr4 ?tr5; (case' tr4 => with_reducible assumption); (case' tr5 => with_reducible assumption); (case' tr1 => omega); (case' tr2 => omega); (case' tr3 => omega))
  | (constructor; all_goals try (wtm_at "sd")))
local macro_rules | `(tactic| wtm_at "nm") => `(tactic| first
  | ((with_reducible show Ev _ _ (.Name "P" _) _); exact nmF (by assumption) 0 (by rfl) rfl (by decide +kernel) (by decide +kernel) (by decide +kernel))
  | ((with_reducible show Ev _ _ (.Name "table" _) _); exact nmF (by assumption) 1 (by rfl) rfl (by decide +kernel) (by decide +kernel) (by decide +kernel))
  | ((with_reducible show Ev _ _ (.Name "n" _) _); exact nmF (by assumption) 2 (by rfl) rfl (by decide +kernel) (by decide +kernel) (by decide +kernel))
  | ((with_reducible show Ev _ _ (.Name "found" _) _); exact nmF (by assumption) 3 (by rfl) rfl (by decide +kernel) (by decide +kernel) (by decide +kernel)))
local macro_rules | `(tactic| wtm_at "own") => `(tactic| first
  | ((with_reducible show EvS _ _ (.Name "P" _) _ _); exact ownF (by assumption) 0 (by rfl) rfl (by decide +kernel) (by decide +kernel) (by decide +kernel))
  | ((with_reducible show EvS _ _ (.Name "table" _) _ _); exact ownF (by assumption) 1 (by rfl) rfl (by decide +kernel) (by decide +kernel) (by decide +kernel))
  | ((with_reducible show EvS _ _ (.Name "n" _) _ _); exact ownF (by assumption) 2 (by rfl) rfl (by decide +kernel) (by decide +kernel) (by decide +kernel))
  | ((with_reducible show EvS _ _ (.Name "found" _) _ _); exact ownF (by assumption) 3 (by rfl) rfl (by decide +kernel) (by decide +kernel) (by decide +kernel)))
local macro_rules | `(tactic| wtm_at "ownl") => `(tactic| first
  | ((with_reducible show EvL _ _ (.Name "P" _) _); exact ownlF (by assumption) 0 (by rfl) rfl (by decide +kernel) (by decide +kernel) (by decide +kernel))
  | ((with_reducible show EvL _ _ (.Name "table" _) _); exact ownlF (by assumption) 1 (by rfl) rfl (by decide +kernel) (by decide +kernel) (by decide +kernel))
  | ((with_reducible show EvL _ _ (.Name "n" _) _); exact ownlF (by assumption) 2 (by rfl) rfl (by decide +kernel) (by decide +kernel) (by decide +kernel))
  | ((with_reducible show EvL _ _ (.Name "found" _) _); exact ownlF (by assumption) 3 (by rfl) rfl (by decide +kernel) (by decide +kernel) (by decide +kernel)))
local macro_rules | `(tactic| wtm_at "set") => `(tactic| first
  | ((with_reducible show S1 _ _ (.Assign [.Name "P" _] _ _) _); refine' setF ?st1 ?st2 0 ?st3 ?st4 ?ste ?st5; (case' st1 => assumption); (case' st2 => assumption); (case' st3 => rfl); (case' st4 => decide +kernel); (case' ste => wtm_at "ev"); (case' st5 => rfl))
  | ((with_reducible show S1 _ _ (.Assign [.Name "table" _] _ _) _); refine' setF ?st1 ?st2 1 ?st3 ?st4 ?ste ?st5; (case' st1 => assumption); (case' st2 => assumption); (case' st3 => rfl); (case' st4 => decide +kernel); (case' ste => wtm_at "ev"); (case' st5 => rfl))
  | ((with_reducible show S1 _ _ (.Assign [.Name "n" _] _ _) _); refine' setF ?st1 ?st2 2 ?st3 ?st4 ?ste ?st5; (case' st1 => assumption); (case' st2 => assumption); (case' st3 => rfl); (case' st4 => decide +kernel); (case' ste => wtm_at "ev"); (case' st5 => rfl))
  | ((with_reducible show S1 _ _ (.Assign [.Name "found" _] _ _) _); refine' setF ?st1 ?st2 3 ?st3 ?st4 ?ste ?st5; (case' st1 => assumption); (case' st2 => assumption); (case' st3 => rfl); (case' st4 => decide +kernel); (case' ste => wtm_at "ev"); (case' st5 => rfl)))
local macro_rules | `(tactic| wtm_at "app") => `(tactic| first
  | ((with_reducible show S1 _ _ (.Expr (.Call (.Attribute (.Name "P" _) _ _) _ _ _) _) _); refine' appF ?ap1 0 ?ap2 ?ap3 ?ap4 ?ape ?aps ?ap5 ?ap6; (case' ap1 => assumption); (case' ap2 => rfl); (case' ap3 => rfl); (case' ap4 => decide +kernel); (case' ape => wtm_at "ev"); (case' aps => try (wtm_at "sz")); (case' ap5 => decide +kernel); (case' ap6 => decide +kernel))
  | ((with_reducible show S1 _ _ (.Expr (.Call (.Attribute (.Name "table" _) _ _) _ _ _) _) _); refine' appF ?ap1 1 ?ap2 ?ap3 ?ap4 ?ape ?aps ?ap5 ?ap6; (case' ap1 => assumption); (case' ap2 => rfl); (case' ap3 => rfl); (case' ap4 => decide +kernel); (case' ape => wtm_at "ev"); (case' aps => try (wtm_at "sz")); (case' ap5 => decide +kernel); (case' ap6 => decide +kernel))
  | ((with_reducible show S1 _ _ (.Expr (.Call (.Attribute (.Name "n" _) _ _) _ _ _) _) _); refine' appF ?ap1 2 ?ap2 ?ap3 ?ap4 ?ape ?aps ?ap5 ?ap6; (case' ap1 => assumption); (case' ap2 => rfl); (case' ap3 => rfl); (case' ap4 => decide +kernel); (case' ape => wtm_at "ev"); (case' aps => try (wtm_at "sz")); (case' ap5 => decide +kernel); (case' ap6 => decide +kernel))
  | ((with_reducible show S1 _ _ (.Expr (.Call (.Attribute (.Name "found" _) _ _) _ _ _) _) _); refine' appF ?ap1 3 ?ap2 ?ap3 ?ap4 ?ape ?aps ?ap5 ?ap6; (case' ap1 => assumption); (case' ap2 => rfl); (case' ap3 => rfl); (case' ap4 => decide +kernel); (case' ape => wtm_at "ev"); (case' aps => try (wtm_at "sz")); (case' ap5 => decide +kernel); (case' ap6 => decide +kernel)))
local macro_rules | `(tactic| wtm_at "put") => `(tactic| first
  | ((with_reducible show S1 _ _ (.Assign [.Subscript (.Name "P" _) _ _] _ _) _); refine' putF ?pu1 0 ?pu2 ?pu3 ?pu4 ?pue ?pui ?pu5 ?pu6 ?pu7 ?pu8; (case' pu1 => assumption); (case' pu2 => rfl); (case' pu3 => rfl); (case' pu4 => decide +kernel); (case' pue => wtm_at "ev"); (case' pui => wtm_at "ev"); (case' pu5 => try (wtm_at "sd")); (case' pu6 => try (wtm_at "sd")); (case' pu7 => decide +kernel); (case' pu8 => decide +kernel))
  | ((with_reducible show S1 _ _ (.Assign [.Subscript (.Name "table" _) _ _] _ _) _); refine' putF ?pu1 1 ?pu2 ?pu3 ?pu4 ?pue ?pui ?pu5 ?pu6 ?pu7 ?pu8; (case' pu1 => assumption); (case' pu2 => rfl); (case' pu3 => rfl); (case' pu4 => decide +kernel); (case' pue => wtm_at "ev"); (case' pui => wtm_at "ev"); (case' pu5 => try (wtm_at "sd")); (case' pu6 => try (wtm_at "sd")); (case' pu7 => decide +kernel); (case' pu8 => decide +kernel))
  | ((with_reducible show S1 _ _ (.Assign [.Subscript (.Name "n" _) _ _] _ _) _); refine' putF ?pu1 2 ?pu2 ?pu3 ?pu4 ?pue ?pui ?pu5 ?pu6 ?pu7 ?pu8; (case' pu1 => assumption); (case' pu2 => rfl); (case' pu3 => rfl); (case' pu4 => decide +kernel); (case' pue => wtm_at "ev"); (case' pui => wtm_at "ev"); (case' pu5 => try (wtm_at "sd")); (case' pu6 => try (wtm_at "sd")); (case' pu7 => decide +kernel); (case' pu8 => decide +kernel))
  | ((with_reducible show S1 _ _ (.Assign [.Subscript (.Name "found" _) _ _] _ _) _); refine' putF ?pu1 3 ?pu2 ?pu3 ?pu4 ?pue ?pui ?pu5 ?pu6 ?pu7 ?pu8; (case' pu1 => assumption); (case' pu2 => rfl); (case' pu3 => rfl); (case' pu4 => decide +kernel); (case' pue => wtm_at "ev"); (case' pui => wtm_at "ev"); (case' pu5 => try (wtm_at "sd")); (case' pu6 => try (wtm_at "sd")); (case' pu7 => decide +kernel); (case' pu8 => decide +kernel)))
local macro_rules | `(tactic| wtm_at "reto") => `(tactic| first
  | ((with_reducible show S1 _ _ (.Return (some (.Name "P" _)) _) _); exact retOF (by assumption) 0 (by rfl) rfl (by decide +kernel) (by decide +kernel) (by decide +kernel))
  | ((with_reducible show S1 _ _ (.Return (some (.Name "table" _)) _) _); exact retOF (by assumption) 1 (by rfl) rfl (by decide +kernel) (by decide +kernel) (by decide +kernel))
  | ((with_reducible show S1 _ _ (.Return (some (.Name "n" _)) _) _); exact retOF (by assumption) 2 (by rfl) rfl (by decide +kernel) (by decide +kernel) (by decide +kernel))
  | ((with_reducible show S1 _ _ (.Return (some (.Name "found" _)) _) _); exact retOF (by assumption) 3 (by rfl) rfl (by decide +kernel) (by decide +kernel) (by decide +kernel)))
local macro_rules | `(tactic| wtm_at "tgt") => `(tactic| first
  | ((with_reducible show PG _ (.Name "P" _) _); exact tgF (by assumption) (by assumption) 0 (by rfl) (by decide +kernel))
  | ((with_reducible show PG _ (.Name "table" _) _); exact tgF (by assumption) (by assumption) 1 (by rfl) (by decide +kernel))
  | ((with_reducible show PG _ (.Name "n" _) _); exact tgF (by assumption) (by assumption) 2 (by rfl) (by decide +kernel))
  | ((with_reducible show PG _ (.Name "found" _) _); exact tgF (by assumption) (by assumption) 3 (by rfl) (by decide +kernel)))
theorem ok_ladder {f : Addr} {fd : FuncData} (F : Fun K "ladder" "ladder" s_ladder f fd) (hm : mg "ladder" = some (.ref f)) (b : Binds K fd ["P", "table", "n"] []) (Gt : Fn P w K mg base 3 "then" ["P", "one", "other"] rThen) : Fn P w K mg base 4 "ladder" ["P", "table", "n"] rLadder := by
  refine fnF F hm b sc_ladder (fun ds r h => by cases h; rfl) fun X hX hT ds r h => ?_
  cases h with
  | @mk p n m t h h9 hn hn2 ht hm =>
    refine' sm_cons ?s1 ?_
    case' s1 => wtm_at "st"
    have hL := bits_hi hm
    refine' sm_cons ?s2 ?_
    case' s2 =>
      refine' whileV hX (fun i => [.dat (.int p), .dat (tT (dbl p t (i - 1))), .dat (.int ((m / 2 ^ i : Nat) : Int)), .own (.lst (((List.range i).map (dbl p t)).map tT))]) (bitsN m) (fun i => decide (0 < ((m / 2 ^ i : Nat) : Int))) ?l (fun i _ => ?t) (fun i hi => ?v1) ?v2 fun i hi => ?s3
      case' l => wtm_at "le"
      case' t => wtm_at "test"
      case v1 => exact decide_eq_true (Int.natCast_pos.mpr (bits_lt.mp hi))
      case v2 => exact decide_eq_false fun z => absurd (bits_lt.mpr (Int.natCast_pos.mp z)) (Nat.lt_irrefl _)
      have hd := dbl_tbl h hn ht (i - 1)
      refine' sm_cons (A1 := [.dat (.int p), .dat (tT (dbl p t i)), .dat (.int ((m / 2 ^ i : Nat) : Int)), .own (.lst (((List.range i).map (dbl p t)).map tT))]) ?s4 ?_
      case' s4 =>
        refine' s1_if ?c4 (fun h4 => ?t4) fun h4 => ?f4
        case' c4 => wtm_at "test"
        case' t4 =>
          refine' sm_le (sm_one ?s5) ?l5
          case' s5 => wtm_at "st"
          case' l5 =>
            have e : dbl p t i = thenT p (dbl p t (i - 1)) (dbl p t (i - 1)) := by
              cases i with
              | zero => simp at h4
              | succ i => rfl
            rw [e]
            wtm_at "le"
        case' f4 =>
          refine' sm_le sm_nil ?l6
          case' l6 =>
            have e : dbl p t (i - 1) = dbl p t i := by
              cases i with
              | zero => rfl
              | succ i => simp at h4
            rw [e]
            wtm_at "le"
      refine' sm_cons ?s7 ?_
      case' s7 => wtm_at "st"
      refine' sm_le (sm_one ?s8) ?l8
      case' s8 => wtm_at "st"
      case' l8 =>
        rw [List.range_succ, List.map_append, List.map_append, half_succ]
        wtm_at "le"
    refine' sm_end ?s9
    case' s9 => wtm_at "st"
inductive rRounds : List PyData → Res → Prop
  | mk {P : Int} {n m : Nat} {t : List (List Int)} (h : 1 < P) (h9 : P ≤ 9999) (hn : 1 ≤ n) (hn2 : n ≤ 100) (ht : Tbl P n t) (hm : m < 2 ^ 1000) : rRounds [.int P, tT t, .int m] (.ok (.dat (tT (roundsT P n t m))))
local macro_rules | `(tactic| wtm_at "nm") => `(tactic| first
  | ((with_reducible show Ev _ _ (.Name "P" _) _); exact nmF (by assumption) 0 (by rfl) rfl (by decide +kernel) (by decide +kernel) (by decide +kernel))
  | ((with_reducible show Ev _ _ (.Name "table" _) _); exact nmF (by assumption) 1 (by rfl) rfl (by decide +kernel) (by decide +kernel) (by decide +kernel))
  | ((with_reducible show Ev _ _ (.Name "n" _) _); exact nmF (by assumption) 2 (by rfl) rfl (by decide +kernel) (by decide +kernel) (by decide +kernel))
  | ((with_reducible show Ev _ _ (.Name "whole" _) _); exact nmF (by assumption) 3 (by rfl) rfl (by decide +kernel) (by decide +kernel) (by decide +kernel))
  | ((with_reducible show Ev _ _ (.Name "one" _) _); exact nmF (by assumption) 4 (by rfl) rfl (by decide +kernel) (by decide +kernel) (by decide +kernel)))
local macro_rules | `(tactic| wtm_at "own") => `(tactic| first
  | ((with_reducible show EvS _ _ (.Name "P" _) _ _); exact ownF (by assumption) 0 (by rfl) rfl (by decide +kernel) (by decide +kernel) (by decide +kernel))
  | ((with_reducible show EvS _ _ (.Name "table" _) _ _); exact ownF (by assumption) 1 (by rfl) rfl (by decide +kernel) (by decide +kernel) (by decide +kernel))
  | ((with_reducible show EvS _ _ (.Name "n" _) _ _); exact ownF (by assumption) 2 (by rfl) rfl (by decide +kernel) (by decide +kernel) (by decide +kernel))
  | ((with_reducible show EvS _ _ (.Name "whole" _) _ _); exact ownF (by assumption) 3 (by rfl) rfl (by decide +kernel) (by decide +kernel) (by decide +kernel))
  | ((with_reducible show EvS _ _ (.Name "one" _) _ _); exact ownF (by assumption) 4 (by rfl) rfl (by decide +kernel) (by decide +kernel) (by decide +kernel)))
local macro_rules | `(tactic| wtm_at "ownl") => `(tactic| first
  | ((with_reducible show EvL _ _ (.Name "P" _) _); exact ownlF (by assumption) 0 (by rfl) rfl (by decide +kernel) (by decide +kernel) (by decide +kernel))
  | ((with_reducible show EvL _ _ (.Name "table" _) _); exact ownlF (by assumption) 1 (by rfl) rfl (by decide +kernel) (by decide +kernel) (by decide +kernel))
  | ((with_reducible show EvL _ _ (.Name "n" _) _); exact ownlF (by assumption) 2 (by rfl) rfl (by decide +kernel) (by decide +kernel) (by decide +kernel))
  | ((with_reducible show EvL _ _ (.Name "whole" _) _); exact ownlF (by assumption) 3 (by rfl) rfl (by decide +kernel) (by decide +kernel) (by decide +kernel))
  | ((with_reducible show EvL _ _ (.Name "one" _) _); exact ownlF (by assumption) 4 (by rfl) rfl (by decide +kernel) (by decide +kernel) (by decide +kernel)))
local macro_rules | `(tactic| wtm_at "set") => `(tactic| first
  | ((with_reducible show S1 _ _ (.Assign [.Name "P" _] _ _) _); refine' setF ?st1 ?st2 0 ?st3 ?st4 ?ste ?st5; (case' st1 => assumption); (case' st2 => assumption); (case' st3 => rfl); (case' st4 => decide +kernel); (case' ste => wtm_at "ev"); (case' st5 => rfl))
  | ((with_reducible show S1 _ _ (.Assign [.Name "table" _] _ _) _); refine' setF ?st1 ?st2 1 ?st3 ?st4 ?ste ?st5; (case' st1 => assumption); (case' st2 => assumption); (case' st3 => rfl); (case' st4 => decide +kernel); (case' ste => wtm_at "ev"); (case' st5 => rfl))
  | ((with_reducible show S1 _ _ (.Assign [.Name "n" _] _ _) _); refine' setF ?st1 ?st2 2 ?st3 ?st4 ?ste ?st5; (case' st1 => assumption); (case' st2 => assumption); (case' st3 => rfl); (case' st4 => decide +kernel); (case' ste => wtm_at "ev"); (case' st5 => rfl))
  | ((with_reducible show S1 _ _ (.Assign [.Name "whole" _] _ _) _); refine' setF ?st1 ?st2 3 ?st3 ?st4 ?ste ?st5; (case' st1 => assumption); (case' st2 => assumption); (case' st3 => rfl); (case' st4 => decide +kernel); (case' ste => wtm_at "ev"); (case' st5 => rfl))
  | ((with_reducible show S1 _ _ (.Assign [.Name "one" _] _ _) _); refine' setF ?st1 ?st2 4 ?st3 ?st4 ?ste ?st5; (case' st1 => assumption); (case' st2 => assumption); (case' st3 => rfl); (case' st4 => decide +kernel); (case' ste => wtm_at "ev"); (case' st5 => rfl)))
local macro_rules | `(tactic| wtm_at "app") => `(tactic| first
  | ((with_reducible show S1 _ _ (.Expr (.Call (.Attribute (.Name "P" _) _ _) _ _ _) _) _); refine' appF ?ap1 0 ?ap2 ?ap3 ?ap4 ?ape ?aps ?ap5 ?ap6; (case' ap1 => assumption); (case' ap2 => rfl); (case' ap3 => rfl); (case' ap4 => decide +kernel); (case' ape => wtm_at "ev"); (case' aps => try (wtm_at "sz")); (case' ap5 => decide +kernel); (case' ap6 => decide +kernel))
  | ((with_reducible show S1 _ _ (.Expr (.Call (.Attribute (.Name "table" _) _ _) _ _ _) _) _); refine' appF ?ap1 1 ?ap2 ?ap3 ?ap4 ?ape ?aps ?ap5 ?ap6; (case' ap1 => assumption); (case' ap2 => rfl); (case' ap3 => rfl); (case' ap4 => decide +kernel); (case' ape => wtm_at "ev"); (case' aps => try (wtm_at "sz")); (case' ap5 => decide +kernel); (case' ap6 => decide +kernel))
  | ((with_reducible show S1 _ _ (.Expr (.Call (.Attribute (.Name "n" _) _ _) _ _ _) _) _); refine' appF ?ap1 2 ?ap2 ?ap3 ?ap4 ?ape ?aps ?ap5 ?ap6; (case' ap1 => assumption); (case' ap2 => rfl); (case' ap3 => rfl); (case' ap4 => decide +kernel); (case' ape => wtm_at "ev"); (case' aps => try (wtm_at "sz")); (case' ap5 => decide +kernel); (case' ap6 => decide +kernel))
  | ((with_reducible show S1 _ _ (.Expr (.Call (.Attribute (.Name "whole" _) _ _) _ _ _) _) _); refine' appF ?ap1 3 ?ap2 ?ap3 ?ap4 ?ape ?aps ?ap5 ?ap6; (case' ap1 => assumption); (case' ap2 => rfl); (case' ap3 => rfl); (case' ap4 => decide +kernel); (case' ape => wtm_at "ev"); (case' aps => try (wtm_at "sz")); (case' ap5 => decide +kernel); (case' ap6 => decide +kernel))
  | ((with_reducible show S1 _ _ (.Expr (.Call (.Attribute (.Name "one" _) _ _) _ _ _) _) _); refine' appF ?ap1 4 ?ap2 ?ap3 ?ap4 ?ape ?aps ?ap5 ?ap6; (case' ap1 => assumption); (case' ap2 => rfl); (case' ap3 => rfl); (case' ap4 => decide +kernel); (case' ape => wtm_at "ev"); (case' aps => try (wtm_at "sz")); (case' ap5 => decide +kernel); (case' ap6 => decide +kernel)))
local macro_rules | `(tactic| wtm_at "put") => `(tactic| first
  | ((with_reducible show S1 _ _ (.Assign [.Subscript (.Name "P" _) _ _] _ _) _); refine' putF ?pu1 0 ?pu2 ?pu3 ?pu4 ?pue ?pui ?pu5 ?pu6 ?pu7 ?pu8; (case' pu1 => assumption); (case' pu2 => rfl); (case' pu3 => rfl); (case' pu4 => decide +kernel); (case' pue => wtm_at "ev"); (case' pui => wtm_at "ev"); (case' pu5 => try (wtm_at "sd")); (case' pu6 => try (wtm_at "sd")); (case' pu7 => decide +kernel); (case' pu8 => decide +kernel))
  | ((with_reducible show S1 _ _ (.Assign [.Subscript (.Name "table" _) _ _] _ _) _); refine' putF ?pu1 1 ?pu2 ?pu3 ?pu4 ?pue ?pui ?pu5 ?pu6 ?pu7 ?pu8; (case' pu1 => assumption); (case' pu2 => rfl); (case' pu3 => rfl); (case' pu4 => decide +kernel); (case' pue => wtm_at "ev"); (case' pui => wtm_at "ev"); (case' pu5 => try (wtm_at "sd")); (case' pu6 => try (wtm_at "sd")); (case' pu7 => decide +kernel); (case' pu8 => decide +kernel))
  | ((with_reducible show S1 _ _ (.Assign [.Subscript (.Name "n" _) _ _] _ _) _); refine' putF ?pu1 2 ?pu2 ?pu3 ?pu4 ?pue ?pui ?pu5 ?pu6 ?pu7 ?pu8; (case' pu1 => assumption); (case' pu2 => rfl); (case' pu3 => rfl); (case' pu4 => decide +kernel); (case' pue => wtm_at "ev"); (case' pui => wtm_at "ev"); (case' pu5 => try (wtm_at "sd")); (case' pu6 => try (wtm_at "sd")); (case' pu7 => decide +kernel); (case' pu8 => decide +kernel))
  | ((with_reducible show S1 _ _ (.Assign [.Subscript (.Name "whole" _) _ _] _ _) _); refine' putF ?pu1 3 ?pu2 ?pu3 ?pu4 ?pue ?pui ?pu5 ?pu6 ?pu7 ?pu8; (case' pu1 => assumption); (case' pu2 => rfl); (case' pu3 => rfl); (case' pu4 => decide +kernel); (case' pue => wtm_at "ev"); (case' pui => wtm_at "ev"); (case' pu5 => try (wtm_at "sd")); (case' pu6 => try (wtm_at "sd")); (case' pu7 => decide +kernel); (case' pu8 => decide +kernel))
  | ((with_reducible show S1 _ _ (.Assign [.Subscript (.Name "one" _) _ _] _ _) _); refine' putF ?pu1 4 ?pu2 ?pu3 ?pu4 ?pue ?pui ?pu5 ?pu6 ?pu7 ?pu8; (case' pu1 => assumption); (case' pu2 => rfl); (case' pu3 => rfl); (case' pu4 => decide +kernel); (case' pue => wtm_at "ev"); (case' pui => wtm_at "ev"); (case' pu5 => try (wtm_at "sd")); (case' pu6 => try (wtm_at "sd")); (case' pu7 => decide +kernel); (case' pu8 => decide +kernel)))
local macro_rules | `(tactic| wtm_at "reto") => `(tactic| first
  | ((with_reducible show S1 _ _ (.Return (some (.Name "P" _)) _) _); exact retOF (by assumption) 0 (by rfl) rfl (by decide +kernel) (by decide +kernel) (by decide +kernel))
  | ((with_reducible show S1 _ _ (.Return (some (.Name "table" _)) _) _); exact retOF (by assumption) 1 (by rfl) rfl (by decide +kernel) (by decide +kernel) (by decide +kernel))
  | ((with_reducible show S1 _ _ (.Return (some (.Name "n" _)) _) _); exact retOF (by assumption) 2 (by rfl) rfl (by decide +kernel) (by decide +kernel) (by decide +kernel))
  | ((with_reducible show S1 _ _ (.Return (some (.Name "whole" _)) _) _); exact retOF (by assumption) 3 (by rfl) rfl (by decide +kernel) (by decide +kernel) (by decide +kernel))
  | ((with_reducible show S1 _ _ (.Return (some (.Name "one" _)) _) _); exact retOF (by assumption) 4 (by rfl) rfl (by decide +kernel) (by decide +kernel) (by decide +kernel)))
local macro_rules | `(tactic| wtm_at "tgt") => `(tactic| first
  | ((with_reducible show PG _ (.Name "P" _) _); exact tgF (by assumption) (by assumption) 0 (by rfl) (by decide +kernel))
  | ((with_reducible show PG _ (.Name "table" _) _); exact tgF (by assumption) (by assumption) 1 (by rfl) (by decide +kernel))
  | ((with_reducible show PG _ (.Name "n" _) _); exact tgF (by assumption) (by assumption) 2 (by rfl) (by decide +kernel))
  | ((with_reducible show PG _ (.Name "whole" _) _); exact tgF (by assumption) (by assumption) 3 (by rfl) (by decide +kernel))
  | ((with_reducible show PG _ (.Name "one" _) _); exact tgF (by assumption) (by assumption) 4 (by rfl) (by decide +kernel)))
theorem ok_rounds {f : Addr} {fd : FuncData} (F : Fun K "rounds" "rounds" s_rounds f fd) (hm : mg "rounds" = some (.ref f)) (b : Binds K fd ["P", "table", "n"] []) (ml : mg "len" = none) (Gi : Fn P w K mg base 2 "idle" ["many"] rIdle) (Gt : Fn P w K mg base 3 "then" ["P", "one", "other"] rThen)
    (Gl : Fn P w K mg base 4 "ladder" ["P", "table", "n"] rLadder) : Fn P w K mg base 5 "rounds" ["P", "table", "n"] rRounds := by
  refine fnF F hm b sc_rounds (fun ds r h => by cases h; rfl) fun X hX hT ds r h => ?_
  cases h with
  | @mk p n m t h h9 hn hn2 ht hm =>
    have p0 : 0 < p := by omega
    have lt := ht.len
    refine' sm_cons (A1 := [.dat (.int p), .dat (tT t), .dat (.int m), .dat (tT (idle n)), .un]) ?s1 ?_
    case' s1 =>
      refine' setF hX hT 3 (by rfl) ?q1 ?q2 (by rfl)
      case' q1 => decide +kernel
      case' q2 =>
        refine' callF hX Gi ?a1 ?a2 ?a3 (rIdle.mk (n := n) hn2) ?a4
        case' a1 => decide
        case' a2 => decide +kernel
        case' a3 =>
          refine' eva_eq ?a7 ?a8
          case' a7 => wtm_at "args"
          case a8 => simp [lt]
        case' a4 => decide +kernel
    refine' sm_cons ?s2 ?_
    case' s2 =>
      refine' forL hX 4 (ladderT p t m) tT (fun i => [.dat (.int p), .dat (tT t), .dat (.int ((m / 2 ^ i : Nat) : Int)), .dat (tT (rnd p n t m i)), .un]) ?i2 ?r2 ?g2 ?l2 (fun _ => rfl) (fun i hi => ?b2)
      case' i2 =>
        refine' ei_dat (ev_frz ?a9) SeqD.lst
        case' a9 => wtm_at "ev"
      case' r2 => rfl
      case' g2 => wtm_at "tgt"
      case' l2 => wtm_at "le"
      have hi2 : i < bitsN m := by simpa [ladderT] using hi
      have e1 : (ladderT p t m)[i] = dbl p t i := by simp [ladderT]
      rw [e1]
      have hd := dbl_tbl p0 hn ht i
      have hr := rnd_tbl (m := m) h hn ht i
      refine' sm_cons (A1 := [.dat (.int p), .dat (tT t), .dat (.int ((m / 2 ^ i : Nat) : Int)), .dat (tT (rnd p n t m (i + 1))), .dat (tT (dbl p t i))]) ?s4 ?_
      case' s4 =>
        refine' s1_if ?c4 (fun h4 => ?t4) fun h4 => ?f4
        case' c4 => wtm_at "test"
        case' t4 =>
          refine' sm_le (sm_one ?s5) ?l5
          case' s5 => wtm_at "st"
          case' l5 =>
            have e : rnd p n t m (i + 1) = thenT p (rnd p n t m i) (dbl p t i) := by
              show (if _ then _ else _) = _
              rw [if_pos (by have := of_decide_eq_true h4; omega)]
            rw [e]
            wtm_at "le"
        case' f4 =>
          refine' sm_le sm_nil ?l6
          case' l6 =>
            have e : rnd p n t m (i + 1) = rnd p n t m i := by
              show (if _ then _ else _) = _
              rw [if_neg (by have := of_decide_eq_false h4; omega)]
            rw [e]
            wtm_at "le"
      refine' sm_le (sm_one ?s8) ?l8
      case' s8 => wtm_at "st"
      case' l8 =>
        rw [half_succ]
        wtm_at "le"
    have e9 : (ladderT p t m).length = bitsN m := by simp [ladderT]
    rw [e9]
    refine' sm_end ?s9
    case' s9 => wtm_at "st"
end
end W

namespace W
open PySem PySem.Spec PyProof.Rows L2 LR
section
variable {P : Program} {w : World} {K : PySem.W.Frag} {mg : Str → Option Value} {base : Heap}
def lawCount (c : Int) : Int := [c / 3 % 5, c / 3 % 1000, c / 3 % (10 ^ (30 : Int).toNat + 1)].getD (c % 3).toNat 0
theorem lawCount_on (c : Int) : 0 ≤ lawCount c ∧ lawCount c ≤ 1000000000000000000000000000000 := by
  unfold lawCount
  have e : (10 : Int) ^ (30 : Int).toNat + 1 = 1000000000000000000000000000001 := by decide
  rw [e]
  rcases (show c % 3 = 0 ∨ c % 3 = 1 ∨ c % 3 = 2 by omega) with h | h | h <;> rw [h]
  · show 0 ≤ c / 3 % 5 ∧ c / 3 % 5 ≤ _
    omega
  · show 0 ≤ c / 3 % 1000 ∧ c / 3 % 1000 ≤ _
    omega
  · show 0 ≤ c / 3 % 1000000000000000000000000000001 ∧ c / 3 % 1000000000000000000000000000001 ≤ _
    omega
inductive rCount : List PyData → Res → Prop
  | mk {c : Int} : rCount [.int c] (.ok (.dat (.int (lawCount c))))
local macro_rules | `(tactic| wtm_at "nm") => `(tactic| first
  | ((with_reducible show Ev _ _ (.Name "cell" _) _); exact nmF (by assumption) 0 (by rfl) rfl (by decide +kernel) (by decide +kernel) (by decide +kernel)))
local macro_rules | `(tactic| wtm_at "own") => `(tactic| first
  | ((with_reducible show EvS _ _ (.Name "cell" _) _ _); exact ownF (by assumption) 0 (by rfl) rfl (by decide +kernel) (by decide +kernel) (by decide +kernel)))
local macro_rules | `(tactic| wtm_at "ownl") => `(tactic| first
  | ((with_reducible show EvL _ _ (.Name "cell" _) _); exact ownlF (by assumption) 0 (by rfl) rfl (by decide +kernel) (by decide +kernel) (by decide +kernel)))
local macro_rules | `(tactic| wtm_at "set") => `(tactic| first
  | ((with_reducible show S1 _ _ (.Assign [.Name "cell" _] _ _) _); refine' setF ?st1 ?st2 0 ?st3 ?st4 ?ste ?st5; (case' st1 => assumption); (case' st2 => assumption); (case' st3 => rfl); (case' st4 => decide +kernel); (case' ste => wtm_at "ev"); (case' st5 => rfl)))
local macro_rules | `(tactic| wtm_at "app") => `(tactic| first
  | ((with_reducible show S1 _ _ (.Expr (.Call (.Attribute (.Name "cell" _) _ _) _ _ _) _) _); refine' appF ?ap1 0 ?ap2 ?ap3 ?ap4 ?ape ?aps ?ap5 ?ap6; (case' ap1 => assumption); (case' ap2 => rfl); (case' ap3 => rfl); (case' ap4 => decide +kernel); (case' ape => wtm_at "ev"); (case' aps => try (wtm_at "sz")); (case' ap5 => decide +kernel); (case' ap6 => decide +kernel)))
local macro_rules | `(tactic| wtm_at "put") => `(tactic| first
  | ((with_reducible show S1 _ _ (.Assign [.Subscript (.Name "cell" _) _ _] _ _) _); refine' putF ?pu1 0 ?pu2 ?pu3 ?pu4 ?pue ?pui ?pu5 ?pu6 ?pu7 ?pu8; (case' pu1 => assumption); (case' pu2 => rfl); (case' pu3 => rfl); (case' pu4 => decide +kernel); (case' pue => wtm_at "ev"); (case' pui => wtm_at "ev"); (case' pu5 => try (wtm_at "sd")); (case' pu6 => try (wtm_at "sd")); (case' pu7 => decide +kernel); (case' pu8 => decide +kernel)))
local macro_rules | `(tactic| wtm_at "reto") => `(tactic| first
  | ((with_reducible show S1 _ _ (.Return (some (.Name "cell" _)) _) _); exact retOF (by assumption) 0 (by rfl) rfl (by decide +kernel) (by decide +kernel) (by decide +kernel)))
local macro_rules | `(tactic| wtm_at "tgt") => `(tactic| first
  | ((with_reducible show PG _ (.Name "cell" _) _); exact tgF (by assumption) (by assumption) 0 (by rfl) (by decide +kernel)))
theorem ok_count {f : Addr} {fd : FuncData} (F : Fun K "_law_count" "_law_count" s__law_count f fd) (hm : mg "_law_count" = some (.ref f)) (b : Binds K fd ["cell"] []) : Fn P w K mg base 1 "_law_count" ["cell"] rCount := by
  refine fnF F hm b sc__law_count (fun ds r h => by cases h; rfl) fun X hX hT ds r h => ?_
  cases h with
  | @mk c =>
    have cp : CPow 10 30 := ⟨by decide, by decide, by decide⟩
    have h30 : (0 : Int) < 10 ^ (30 : Int).toNat + 1 := by decide
    have c0 : 0 ≤ c % 3 := by omega
    have c1 : c % 3 < 3 := by omega
    refine' sm_end ?s1
    case' s1 => wtm_at "st"
def tabNum (s : List Int) (P a : Int) : Int := (cutS s (some a) none (some 12)).sum % P
def lawTable (s : List Int) (a P : Int) (n : Nat) : List (List Int) := (List.range n).map fun x : Nat => (List.range (n + 1)).map fun k : Nat => tabNum s P (a + 4 * x + k)
theorem lawTable_tbl {s : List Int} {a P : Int} {n : Nat} (h : 0 < P) : Tbl P n (lawTable s a P n) where
  len := by simp [lawTable]
  row := fun f hf => by
    simp only [lawTable, List.mem_map] at hf
    obtain ⟨x, _, rfl⟩ := hf
    refine ⟨by simp, fun y hy => ?_⟩
    simp only [List.mem_map] at hy
    obtain ⟨k, _, rfl⟩ := hy
    exact ⟨Int.emod_nonneg _ (by omega), Int.emod_lt_of_pos _ h⟩
inductive rTable : List PyData → Res → Prop
  | mk {s : List Int} {a P : Int} {n : Nat} (h : 0 < P) (hn : n ≤ 100) : rTable [.list (s.map .int), .int a, .int P, .int n] (.ok (.dat (tT (lawTable s a P n))))
end
end W

namespace W
open PySem PySem.Spec PyProof.Rows L2 LR
/-! items -/
inductive Item where
  | set (x : Int) (f : List Int)
  | again (n : Int) (its : List Item)
mutual
def Item.enc : Item → PyData
  | .set x f => .tuple [.str "set", .int x, tI f]
  | .again n its => .tuple [.str "again", .int n, .tuple (encs its)]
def encs : List Item → List PyData
  | [] => []
  | i :: r => i.enc :: encs r
end
theorem encs_map : ∀ its, encs its = its.map Item.enc
  | [] => by simp [encs]
  | i :: r => by rw [encs, List.map_cons, encs_map r]
abbrev tIt (its : List Item) : PyData := .tuple (its.map Item.enc)
theorem enc_set (x : Int) (f : List Int) : (Item.set x f).enc = .tuple [.str "set", .int x, tI f] := by rw [Item.enc]
theorem enc_again (n : Int) (its : List Item) : (Item.again n its).enc = .tuple [.str "again", .int n, tIt its] := by rw [Item.enc, encs_map]
mutual
/-- how many agains stand within one another -/
def Item.lev : Item → Nat
  | .set _ _ => 0
  | .again _ its => 1 + levs its
def levs : List Item → Nat
  | [] => 0
  | i :: r => max i.lev (levs r)
end
mutual
def Item.cnt : Item → Nat
  | .set _ _ => 1
  | .again _ its => 1 + cnts its
def cnts : List Item → Nat
  | [] => 0
  | i :: r => i.cnt + cnts r
end
mutual
/-- an item of a program -/
def Item.Good (P : Int) (n : Nat) : Item → Prop
  | .set x f => 0 ≤ x ∧ x < n ∧ f.length = n + 1 ∧ OnW P f
  | .again m its => 0 ≤ m ∧ m ≤ 1000000000000000000000000000000 ∧ Goods P n its
def Goods (P : Int) (n : Nat) : List Item → Prop
  | [] => True
  | i :: r => i.Good P n ∧ Goods P n r
end
theorem lev_set {x : Int} {f : List Int} : (Item.set x f).lev = 0 := by rw [Item.lev]
theorem lev_again {n : Int} {its : List Item} : (Item.again n its).lev = 1 + levs its := by rw [Item.lev]
theorem levs_nil : levs [] = 0 := by rw [levs]
theorem levs_cons {i : Item} {r : List Item} : levs (i :: r) = max i.lev (levs r) := by rw [levs]
theorem cnt_set {x : Int} {f : List Int} : (Item.set x f).cnt = 1 := by rw [Item.cnt]
theorem cnt_again {n : Int} {its : List Item} : (Item.again n its).cnt = 1 + cnts its := by rw [Item.cnt]
theorem cnts_nil : cnts [] = 0 := by rw [cnts]
theorem cnts_cons {i : Item} {r : List Item} : cnts (i :: r) = i.cnt + cnts r := by rw [cnts]
theorem good_set {P : Int} {n : Nat} {x : Int} {f : List Int} : (Item.set x f).Good P n ↔ 0 ≤ x ∧ x < n ∧ f.length = n + 1 ∧ OnW P f := by rw [Item.Good]
theorem good_again {P : Int} {n : Nat} {m : Int} {its : List Item} : (Item.again m its).Good P n ↔ 0 ≤ m ∧ m ≤ 1000000000000000000000000000000 ∧ Goods P n its := by rw [Item.Good]
theorem goods_iff {P : Int} {n : Nat} : ∀ {its : List Item}, Goods P n its ↔ ∀ i ∈ its, i.Good P n
  | [] => by simp [Goods]
  | i :: r => by rw [Goods, goods_iff (its := r)]; simp
theorem levs_le {d : Nat} : ∀ {its : List Item}, levs its ≤ d ↔ ∀ i ∈ its, i.lev ≤ d
  | [] => by simp [levs]
  | i :: r => by
    rw [levs_cons, Nat.max_le, levs_le (its := r)]
    simp
theorem lev_le_levs {its : List Item} {i : Item} (h : i ∈ its) : i.lev ≤ levs its := levs_le.mp (Nat.le_refl _) i h
theorem cnts_append : ∀ (a b : List Item), cnts (a ++ b) = cnts a + cnts b
  | [], b => by rw [cnts_nil, Nat.zero_add]; rfl
  | i :: r, b => by
    show cnts (i :: (r ++ b)) = _
    rw [cnts_cons, cnts_cons, cnts_append r b, Nat.add_assoc]
theorem cnts_split (k : Nat) (a : List Item) : cnts (a.take k) + cnts (a.drop k) = cnts a := by rw [← cnts_append, List.take_append_drop]
theorem len_le_cnts : ∀ a : List Item, a.length ≤ cnts a
  | [] => by rw [cnts_nil]; exact Nat.le_refl _
  | i :: r => by
    rw [cnts_cons, List.length_cons]
    have := len_le_cnts r
    have : 1 ≤ i.cnt := by
      cases i with
      | set x f => rw [cnt_set]; exact Nat.le_refl _
      | again n its => rw [cnt_again]; omega
    omega
theorem goods_take {P : Int} {n k : Nat} {a : List Item} (h : Goods P n a) : Goods P n (a.take k) := goods_iff.mpr fun i hi => goods_iff.mp h i (List.mem_of_mem_take hi)
theorem goods_drop {P : Int} {n k : Nat} {a : List Item} (h : Goods P n a) : Goods P n (a.drop k) := goods_iff.mpr fun i hi => goods_iff.mp h i (List.mem_of_mem_drop hi)
theorem goods_append {P : Int} {n : Nat} {a b : List Item} (h : Goods P n a) (h2 : Goods P n b) : Goods P n (a ++ b) := goods_iff.mpr fun i hi => by
  rcases List.mem_append.mp hi with z | z
  · exact goods_iff.mp h i z
  · exact goods_iff.mp h2 i z
theorem goods_one {P : Int} {n : Nat} {i : Item} (h : i.Good P n) : Goods P n [i] := goods_iff.mpr fun j hj => by rw [List.mem_singleton.mp hj]; exact h
theorem goods_nil {P : Int} {n : Nat} : Goods P n [] := goods_iff.mpr fun _ h => nomatch h
theorem goods_get {P : Int} {n k : Nat} {a : List Item} (h : Goods P n a) (hk : k < a.length) : (a[k]).Good P n := goods_iff.mp h _ (List.getElem_mem hk)
theorem levs_take {k d : Nat} {a : List Item} (h : levs a ≤ d) : levs (a.take k) ≤ d := levs_le.mpr fun i hi => levs_le.mp h i (List.mem_of_mem_take hi)
theorem levs_drop {k d : Nat} {a : List Item} (h : levs a ≤ d) : levs (a.drop k) ≤ d := levs_le.mpr fun i hi => levs_le.mp h i (List.mem_of_mem_drop hi)
theorem levs_append {d : Nat} {a b : List Item} (h : levs a ≤ d) (h2 : levs b ≤ d) : levs (a ++ b) ≤ d := levs_le.mpr fun i hi => by
  rcases List.mem_append.mp hi with z | z
  · exact levs_le.mp h i z
  · exact levs_le.mp h2 i z
theorem levs_one {d : Nat} {i : Item} (h : i.lev ≤ d) : levs [i] ≤ d := levs_le.mpr fun j hj => by rw [List.mem_singleton.mp hj]; exact h
/-! the law's items -/
def setForm (c P : Int) (x : Nat) (f : List Int) : List Int := if f.getD x 0 = 0 ∧ 0 < c / 3 % 6 then f.take x ++ [1 + c / 18 % (P - 1)] ++ f.drop (x + 1) else f
def lawSet (c d P : Int) (n : Nat) : Item := .set (c % n) (setForm c P (c % n).toNat (lawDigits d P (n + 1)))
theorem setForm_len {c P : Int} {x : Nat} {f : List Int} (h : x < f.length) : (setForm c P x f).length = f.length := by
  unfold setForm
  split
  · simp; omega
  · rfl
theorem setForm_on {c P : Int} {x : Nat} {f : List Int} (hP : 1 < P) (h : OnW P f) : OnW P (setForm c P x f) := by
  unfold setForm
  split
  · intro y hy
    rw [List.mem_append, List.mem_append] at hy
    rcases hy with (z | z) | z
    · exact h y (List.mem_of_mem_take z)
    · rw [List.mem_singleton.mp z]
      have a := Int.emod_nonneg (c / 18) (show P - 1 ≠ 0 by omega)
      have b := Int.emod_lt_of_pos (c / 18) (show 0 < P - 1 by omega)
      omega
    · exact h y (List.mem_of_mem_drop z)
  · exact h
theorem lawSet_good {c d P : Int} {n : Nat} (hP : 1 < P) (hn : 1 ≤ n) : (lawSet c d P n).Good P n := by
  have a := Int.emod_nonneg c (show (n : Int) ≠ 0 by omega)
  have b := Int.emod_lt_of_pos c (show 0 < (n : Int) by omega)
  have e : (c % n).toNat < (lawDigits d P (n + 1)).length := by rw [lawDigits_len]; omega
  refine good_set.mpr ⟨a, b, ?_, ?_⟩
  · rw [setForm_len e, lawDigits_len]
  · exact setForm_on hP (lawDigits_mem (by omega))
def fewN (its : List Item) (c : Int) : Nat := its.length - min (c / 4 % 4).toNat its.length
def itemsStep (P : Int) (n : Nat) (st : List Item × Int) (c d : Int) : List Item × Int :=
  if c % 4 = 3 ∧ 1 + levs (st.1.drop (fewN st.1 c)) < 4 ∧ 0 < st.2 then (st.1.take (fewN st.1 c) ++ [.again (lawCount d) (st.1.drop (fewN st.1 c))], st.2 - 1) else (st.1 ++ [lawSet (c / 4) d P n], st.2)
def itemsGo (P : Int) (n : Nat) (cells : List Int) (ag : Int) : Nat → List Item × Int
  | 0 => ([], ag)
  | i + 1 => itemsStep P n (itemsGo P n cells ag i) (cells.getD (2 * i) 0) (cells.getD (2 * i + 1) 0)
def lawItems (P : Int) (n : Nat) (ag : Int) (cells : List Int) : List Item := (itemsGo P n cells ag (min cells.length 60 / 2)).1
theorem itemsStep_good {P : Int} {n : Nat} {st : List Item × Int} {c d : Int} (hP : 1 < P) (hn : 1 ≤ n) (a : Goods P n st.1) (b : levs st.1 ≤ 3) : Goods P n (itemsStep P n st c d).1 ∧ levs (itemsStep P n st c d).1 ≤ 3 ∧ cnts (itemsStep P n st c d).1 = cnts st.1 + 1 := by
  by_cases h : c % 4 = 3 ∧ 1 + levs (st.1.drop (fewN st.1 c)) < 4 ∧ 0 < st.2
  · have e : (itemsStep P n st c d).1 = st.1.take (fewN st.1 c) ++ [.again (lawCount d) (st.1.drop (fewN st.1 c))] := by unfold itemsStep; rw [if_pos h]
    obtain ⟨_, h1, _⟩ := h
    have lc := lawCount_on d
    rw [e]
    refine ⟨goods_append (goods_take a) (goods_one (good_again.mpr ⟨lc.1, lc.2, goods_drop a⟩)), levs_append (levs_take b) (levs_one (by rw [lev_again]; omega)), ?_⟩
    rw [cnts_append, cnts_cons, cnts_nil, cnt_again]
    have := cnts_split (fewN st.1 c) st.1
    omega
  · have e : (itemsStep P n st c d).1 = st.1 ++ [lawSet (c / 4) d P n] := by unfold itemsStep; rw [if_neg h]
    rw [e]
    refine ⟨goods_append a (goods_one (lawSet_good hP hn)), levs_append b (levs_one (by unfold lawSet; rw [lev_set]; omega)), ?_⟩
    rw [cnts_append, cnts_cons, cnts_nil]
    unfold lawSet
    rw [cnt_set]
theorem itemsGo_good {P : Int} {n : Nat} {cells : List Int} {ag : Int} (hP : 1 < P) (hn : 1 ≤ n) : ∀ i, Goods P n (itemsGo P n cells ag i).1 ∧ levs (itemsGo P n cells ag i).1 ≤ 3 ∧ cnts (itemsGo P n cells ag i).1 = i
  | 0 => ⟨goods_nil, by show levs [] ≤ 3; rw [levs_nil]; omega, by show cnts [] = 0; rw [cnts_nil]⟩
  | i + 1 => by
    obtain ⟨a, b, c⟩ := itemsGo_good hP hn (cells := cells) (ag := ag) i
    obtain ⟨a', b', c'⟩ := itemsStep_good (c := cells.getD (2 * i) 0) (d := cells.getD (2 * i + 1) 0) hP hn a b
    rw [c] at c'
    exact ⟨a', b', c'⟩
theorem lawItems_good {P : Int} {n : Nat} {cells : List Int} {ag : Int} (hP : 1 < P) (hn : 1 ≤ n) : Goods P n (lawItems P n ag cells) := (itemsGo_good hP hn _).1
theorem lawItems_lev {P : Int} {n : Nat} {cells : List Int} {ag : Int} (hP : 1 < P) (hn : 1 ≤ n) : levs (lawItems P n ag cells) ≤ 3 := (itemsGo_good hP hn _).2.1
theorem lawItems_cnt {P : Int} {n : Nat} {cells : List Int} {ag : Int} (hP : 1 < P) (hn : 1 ≤ n) : cnts (lawItems P n ag cells) ≤ 30 := by
  unfold lawItems
  rw [(itemsGo_good hP hn _).2.2]
  omega
theorem lawItems_len {P : Int} {n : Nat} {cells : List Int} {ag : Int} (hP : 1 < P) (hn : 1 ≤ n) : (lawItems P n ag cells).length ≤ 30 := Nat.le_trans (len_le_cnts _) (lawItems_cnt hP hn)
section
variable {P : Program} {w : World} {K : PySem.W.Frag} {mg : Str → Option Value} {base : Heap}
inductive rSet : List PyData → Res → Prop
  | mk {c d P : Int} {n : Nat} (h : 2 < P) (h9 : P ≤ 9999) (hn : 1 ≤ n) (hn2 : n ≤ 3) : rSet [.int c, .int d, .int P, .int n] (.ok (.dat (lawSet c d P n).enc))
local macro_rules | `(tactic| wtm_at "nm") => `(tactic| first
  | ((with_reducible show Ev _ _ (.Name "cell" _) _); exact nmF (by assumption) 0 (by rfl) rfl (by decide +kernel) (by decide +kernel) (by decide +kernel))
  | ((with_reducible show Ev _ _ (.Name "more" _) _); exact nmF (by assumption) 1 (by rfl) rfl (by decide +kernel) (by decide +kernel) (by decide +kernel))
  | ((with_reducible show Ev _ _ (.Name "P" _) _); exact nmF (by assumption) 2 (by rfl) rfl (by decide +kernel) (by decide +kernel) (by decide +kernel))
  | ((with_reducible show Ev _ _ (.Name "many" _) _); exact nmF (by assumption) 3 (by rfl) rfl (by decide +kernel) (by decide +kernel) (by decide +kernel))
  | ((with_reducible show Ev _ _ (.Name "x" _) _); exact nmF (by assumption) 4 (by rfl) rfl (by decide +kernel) (by decide +kernel) (by decide +kernel))
  | ((with_reducible show Ev _ _ (.Name "form" _) _); exact nmF (by assumption) 5 (by rfl) rfl (by decide +kernel) (by decide +kernel) (by decide +kernel)))
local macro_rules | `(tactic| wtm_at "own") => `(tactic| first
  | ((with_reducible show EvS _ _ (.Name "cell" _) _ _); exact ownF (by assumption) 0 (by rfl) rfl (by decide +kernel) (by decide +kernel) (by decide +kernel))
  | ((with_reducible show EvS _ _ (.Name "more" _) _ _); exact ownF (by assumption) 1 (by rfl) rfl (by decide +kernel) (by decide +kernel) (by decide +kernel))
  | ((with_reducible show EvS _ _ (.Name "P" _) _ _); exact ownF (by assumption) 2 (by rfl) rfl (by decide +kernel) (by decide +kernel) (by decide +kernel))
  | ((with_reducible show EvS _ _ (.Name "many" _) _ _); exact ownF (by assumption) 3 (by rfl) rfl (by decide +kernel) (by decide +kernel) (by decide +kernel))
  | ((with_reducible show EvS _ _ (.Name "x" _) _ _); exact ownF (by assumption) 4 (by rfl) rfl (by decide +kernel) (by decide +kernel) (by decide +kernel))
  | ((with_reducible show EvS _ _ (.Name "form" _) _ _); exact ownF (by assumption) 5 (by rfl) rfl (by decide +kernel) (by decide +kernel) (by decide +kernel)))
local macro_rules | `(tactic| wtm_at "ownl") => `(tactic| first
  | ((with_reducible show EvL _ _ (.Name "cell" _) _); exact ownlF (by assumption) 0 (by rfl) rfl (by decide +kernel) (by decide +kernel) (by decide +kernel))
  | ((with_reducible show EvL _ _ (.Name "more" _) _); exact ownlF (by assumption) 1 (by rfl) rfl (by decide +kernel) (by decide +kernel) (by decide +kernel))
  | ((with_reducible show EvL _ _ (.Name "P" _) _); exact ownlF (by assumption) 2 (by rfl) rfl (by decide +kernel) (by decide +kernel) (by decide +kernel))
  | ((with_reducible show EvL _ _ (.Name "many" _) _); exact ownlF (by assumption) 3 (by rfl) rfl (by decide +kernel) (by decide +kernel) (by decide +kernel))
  | ((with_reducible show EvL _ _ (.Name "x" _) _); exact ownlF (by assumption) 4 (by rfl) rfl (by decide +kernel) (by decide +kernel) (by decide +kernel))
  | ((with_reducible show EvL _ _ (.Name "form" _) _); exact ownlF (by assumption) 5 (by rfl) rfl (by decide +kernel) (by decide +kernel) (by decide +kernel)))
local macro_rules | `(tactic| wtm_at "set") => `(tactic| first
  | ((with_reducible show S1 _ _ (.Assign [.Name "cell" _] _ _) _); refine' setF ?st1 ?st2 0 ?st3 ?st4 ?ste ?st5; (case' st1 => assumption); (case' st2 => assumption); (case' st3 => rfl); (case' st4 => decide +kernel); (case' ste => wtm_at "ev"); (case' st5 => rfl))
  | ((with_reducible show S1 _ _ (.Assign [.Name "more" _] _ _) _); refine' setF ?st1 ?st2 1 ?st3 ?st4 ?ste ?st5; (case' st1 => assumption); (case' st2 => assumption); (case' st3 => rfl); (case' st4 => decide +kernel); (case' ste => wtm_at "ev"); (case' st5 => rfl))
  | ((with_reducible show S1 _ _ (.Assign [.Name "P" _] _ _) _); refine' setF ?st1 ?st2 2 ?st3 ?st4 ?ste ?st5; (case' st1 => assumption); (case' st2 => assumption); (case' st3 => rfl); (case' st4 => decide +kernel); (case' ste => wtm_at "ev"); (case' st5 => rfl))
  | ((with_reducible show S1 _ _ (.Assign [.Name "many" _] _ _) _); refine' setF ?st1 ?st2 3 ?st3 ?st4 ?ste ?st5; (case' st1 => assumption); (case' st2 => assumption); (case' st3 => rfl); (case' st4 => decide +kernel); (case' ste => wtm_at "ev"); (case' st5 => rfl))
  | ((with_reducible show S1 _ _ (.Assign [.Name "x" _] _ _) _); refine' setF ?st1 ?st2 4 ?st3 ?st4 ?ste ?st5; (case' st1 => assumption); (case' st2 => assumption); (case' st3 => rfl); (case' st4 => decide +kernel); (case' ste => wtm_at "ev"); (case' st5 => rfl))
  | ((with_reducible show S1 _ _ (.Assign [.Name "form" _] _ _) _); refine' setF ?st1 ?st2 5 ?st3 ?st4 ?ste ?st5; (case' st1 => assumption); (case' st2 => assumption); (case' st3 => rfl); (case' st4 => decide +kernel); (case' ste => wtm_at "ev"); (case' st5 => rfl)))
local macro_rules | `(tactic| wtm_at "app") => `(tactic| first
  | ((with_reducible show S1 _ _ (.Expr (.Call (.Attribute (.Name "cell" _) _ _) _ _ _) _) _); refine' appF ?ap1 0 ?ap2 ?ap3 ?ap4 ?ape ?aps ?ap5 ?ap6; (case' ap1 => assumption); (case' ap2 => rfl); (case' ap3 => rfl); (case' ap4 => decide +kernel); (case' ape => wtm_at "ev"); (case' aps => try (wtm_at "sz")); (case' ap5 => decide +kernel); (case' ap6 => decide +kernel))
  | ((with_reducible show S1 _ _ (.Expr (.Call (.Attribute (.Name "more" _) _ _) _ _ _) _) _); refine' appF ?ap1 1 ?ap2 ?ap3 ?ap4 ?ape ?aps ?ap5 ?ap6; (case' ap1 => assumption); (case' ap2 => rfl); (case' ap3 => rfl); (case' ap4 => decide +kernel); (case' ape => wtm_at "ev"); (case' aps => try (wtm_at "sz")); (case' ap5 => decide +kernel); (case' ap6 => decide +kernel))
  | ((with_reducible show S1 _ _ (.Expr (.Call (.Attribute (.Name "P" _) _ _) _ _ _) _) _); refine' appF ?ap1 2 ?ap2 ?ap3 ?ap4 ?ape ?aps ?ap5 ?ap6; (case' ap1 => assumption); (case' ap2 => rfl); (case' ap3 => rfl); (case' ap4 => decide +kernel); (case' ape => wtm_at "ev"); (case' aps => try (wtm_at "sz")); (case' ap5 => decide +kernel); (case' ap6 => decide +kernel))
  | ((with_reducible show S1 _ _ (.Expr (.Call (.Attribute (.Name "many" _) _ _) _ _ _) _) _); refine' appF ?ap1 3 ?ap2 ?ap3 ?ap4 ?ape ?aps ?ap5 ?ap6; (case' ap1 => assumption); (case' ap2 => rfl); (case' ap3 => rfl); (case' ap4 => decide +kernel); (case' ape => wtm_at "ev"); (case' aps => try (wtm_at "sz")); (case' ap5 => decide +kernel); (case' ap6 => decide +kernel))
  | ((with_reducible show S1 _ _ (.Expr (.Call (.Attribute (.Name "x" _) _ _) _ _ _) _) _); refine' appF ?ap1 4 ?ap2 ?ap3 ?ap4 ?ape ?aps ?ap5 ?ap6; (case' ap1 => assumption); (case' ap2 => rfl); (case' ap3 => rfl); (case' ap4 => decide +kernel); (case' ape => wtm_at "ev"); (case' aps => try (wtm_at "sz")); (case' ap5 => decide +kernel); (case' ap6 => decide +kernel))
  | ((with_reducible show S1 _ _ (.Expr (.Call (.Attribute (.Name "form" _) _ _) _ _ _) _) _); refine' appF ?ap1 5 ?ap2 ?ap3 ?ap4 ?ape ?aps ?ap5 ?ap6; (case' ap1 => assumption); (case' ap2 => rfl); (case' ap3 => rfl); (case' ap4 => decide +kernel); (case' ape => wtm_at "ev"); (case' aps => try (wtm_at "sz")); (case' ap5 => decide +kernel); (case' ap6 => decide +kernel)))
local macro_rules | `(tactic| wtm_at "put") => `(tactic| first
  | ((with_reducible show S1 _ _ (.Assign [.Subscript (.Name "cell" _) _ _] _ _) _); refine' putF ?pu1 0 ?pu2 ?pu3 ?pu4 ?pue ?pui ?pu5 ?pu6 ?pu7 ?pu8; (case' pu1 => assumption); (case' pu2 => rfl); (case' pu3 => rfl); (case' pu4 => decide +kernel); (case' pue => wtm_at "ev"); (case' pui => wtm_at "ev"); (case' pu5 => try (wtm_at "sd")); (case' pu6 => try (wtm_at "sd")); (case' pu7 => decide +kernel); (case' pu8 => decide +kernel))
  | ((with_reducible show S1 _ _ (.Assign [.Subscript (.Name "more" _) _ _] _ _) _); refine' putF ?pu1 1 ?pu2 ?pu3 ?pu4 ?pue ?pui ?pu5 ?pu6 ?pu7 ?pu8; (case' pu1 => assumption); (case' pu2 => rfl); (case' pu3 => rfl); (case' pu4 => decide +kernel); (case' pue => wtm_at "ev"); (case' pui => wtm_at "ev"); (case' pu5 => try (wtm_at "sd")); (case' pu6 => try (wtm_at "sd")); (case' pu7 => decide +kernel); (case' pu8 => decide +kernel))
  | ((with_reducible show S1 _ _ (.Assign [.Subscript (.Name "P" _) _ _] _ _) _); refine' putF ?pu1 2 ?pu2 ?pu3 ?pu4 ?pue ?pui ?pu5 ?pu6 ?pu7 ?pu8; (case' pu1 => assumption); (case' pu2 => rfl); (case' pu3 => rfl); (case' pu4 => decide +kernel); (case' pue => wtm_at "ev"); (case' pui => wtm_at "ev"); (case' pu5 => try (wtm_at "sd")); (case' pu6 => try (wtm_at "sd")); (case' pu7 => decide +kernel); (case' pu8 => decide +kernel))
  | ((with_reducible show S1 _ _ (.Assign [.Subscript (.Name "many" _) _ _] _ _) _); refine' putF ?pu1 3 ?pu2 ?pu3 ?pu4 ?pue ?pui ?pu5 ?pu6 ?pu7 ?pu8; (case' pu1 => assumption); (case' pu2 => rfl); (case' pu3 => rfl); (case' pu4 => decide +kernel); (case' pue => wtm_at "ev"); (case' pui => wtm_at "ev"); (case' pu5 => try (wtm_at "sd")); (case' pu6 => try (wtm_at "sd")); (case' pu7 => decide +kernel); (case' pu8 => decide +kernel))
  | ((with_reducible show S1 _ _ (.Assign [.Subscript (.Name "x" _) _ _] _ _) _); refine' putF ?pu1 4 ?pu2 ?pu3 ?pu4 ?pue ?pui ?pu5 ?pu6 ?pu7 ?pu8; (case' pu1 => assumption); (case' pu2 => rfl); (case' pu3 => rfl); (case' pu4 => decide +kernel); (case' pue => wtm_at "ev"); (case' pui => wtm_at "ev"); (case' pu5 => try (wtm_at "sd")); (case' pu6 => try (wtm_at "sd")); (case' pu7 => decide +kernel); (case' pu8 => decide +kernel))
  | ((with_reducible show S1 _ _ (.Assign [.Subscript (.Name "form" _) _ _] _ _) _); refine' putF ?pu1 5 ?pu2 ?pu3 ?pu4 ?pue ?pui ?pu5 ?pu6 ?pu7 ?pu8; (case' pu1 => assumption); (case' pu2 => rfl); (case' pu3 => rfl); (case' pu4 => decide +kernel); (case' pue => wtm_at "ev"); (case' pui => wtm_at "ev"); (case' pu5 => try (wtm_at "sd")); (case' pu6 => try (wtm_at "sd")); (case' pu7 => decide +kernel); (case' pu8 => decide +kernel)))
local macro_rules | `(tactic| wtm_at "reto") => `(tactic| first
  | ((with_reducible show S1 _ _ (.Return (some (.Name "cell" _)) _) _); exact retOF (by assumption) 0 (by rfl) rfl (by decide +kernel) (by decide +kernel) (by decide +kernel))
  | ((with_reducible show S1 _ _ (.Return (some (.Name "more" _)) _) _); exact retOF (by assumption) 1 (by rfl) rfl (by decide +kernel) (by decide +kernel) (by decide +kernel))
  | ((with_reducible show S1 _ _ (.Return (some (.Name "P" _)) _) _); exact retOF (by assumption) 2 (by rfl) rfl (by decide +kernel) (by decide +kernel) (by decide +kernel))
  | ((with_reducible show S1 _ _ (.Return (some (.Name "many" _)) _) _); exact retOF (by assumption) 3 (by rfl) rfl (by decide +kernel) (by decide +kernel) (by decide +kernel))
  | ((with_reducible show S1 _ _ (.Return (some (.Name "x" _)) _) _); exact retOF (by assumption) 4 (by rfl) rfl (by decide +kernel) (by decide +kernel) (by decide +kernel))
  | ((with_reducible show S1 _ _ (.Return (some (.Name "form" _)) _) _); exact retOF (by assumption) 5 (by rfl) rfl (by decide +kernel) (by decide +kernel) (by decide +kernel)))
local macro_rules | `(tactic| wtm_at "tgt") => `(tactic| first
  | ((with_reducible show PG _ (.Name "cell" _) _); exact tgF (by assumption) (by assumption) 0 (by rfl) (by decide +kernel))
  | ((with_reducible show PG _ (.Name "more" _) _); exact tgF (by assumption) (by assumption) 1 (by rfl) (by decide +kernel))
  | ((with_reducible show PG _ (.Name "P" _) _); exact tgF (by assumption) (by assumption) 2 (by rfl) (by decide +kernel))
  | ((with_reducible show PG _ (.Name "many" _) _); exact tgF (by assumption) (by assumption) 3 (by rfl) (by decide +kernel))
  | ((with_reducible show PG _ (.Name "x" _) _); exact tgF (by assumption) (by assumption) 4 (by rfl) (by decide +kernel))
  | ((with_reducible show PG _ (.Name "form" _) _); exact tgF (by assumption) (by assumption) 5 (by rfl) (by decide +kernel)))
theorem ok_set {f : Addr} {fd : FuncData} (F : Fun K "_law_set" "_law_set" s__law_set f fd) (hm : mg "_law_set" = some (.ref f)) (b : Binds K fd ["cell", "more", "P", "many"] []) (Gd : Fn P w K mg base 1 "_law_digits" ["cell", "P", "size"] rDigits) : Fn P w K mg base 2 "_law_set" ["cell", "more", "P", "many"] rSet := by
  refine fnF F hm b sc__law_set (fun ds r h => by cases h; rfl) fun X hX hT ds r h => ?_
  cases h with
  | @mk c d p n h h9 hn hn2 =>
    have p0 : 0 < p := by omega
    have p1 : 0 < p - 1 := by omega
    have n0 : 0 < (n : Int) := by omega
    refine' sm_cons ?s1 ?_
    case' s1 => wtm_at "st"
    have ca := Int.emod_nonneg c (show (n : Int) ≠ 0 by omega)
    have cb := Int.emod_lt_of_pos c n0
    obtain ⟨x, hx, hx2⟩ : ∃ x : Nat, c % (n : Int) = x ∧ x < n := ⟨(c % n).toNat, by omega, by omega⟩
    have es : lawSet c d p n = .set x (setForm c p x (lawDigits d p (n + 1))) := by unfold lawSet; rw [hx, Int.toNat_natCast]
    rw [es, hx]
    refine' sm_cons ?s2 ?_
    case' s2 => wtm_at "st"
    have e1 : ((n : Int) + 1).toNat = n + 1 := by omega
    rw [e1]
    have fl := lawDigits_len d p (n + 1)
    generalize lawDigits d p (n + 1) = g at *
    refine' sm_cons (A1 := [.dat (.int c), .dat (.int d), .dat (.int p), .dat (.int n), .dat (.int x), .dat (tI (setForm c p x g))]) ?s3 ?_
    case' s3 =>
      refine' s1_if ?c3 (fun h3 => ?t3) fun h3 => ?f3
      case' c3 => wtm_at "test"
      case' t3 =>
        have e : setForm c p x g = g.take x ++ [1 + c / 18 % (p - 1)] ++ g.drop (x + 1) := by
          unfold setForm
          rw [if_pos (by simpa [-List.getD_eq_getElem?_getD] using h3)]
        refine' sm_le (sm_one ?s4) ?l4
        case' s4 => wtm_at "st"
        case' l4 =>
          have e2 : ((x : Int) + 1).toNat = x + 1 := by omega
          rw [e, e2, Int.toNat_natCast]
          wtm_at "le"
      case' f3 =>
        have e : setForm c p x g = g := by
          unfold setForm
          rw [if_neg (by simpa [-List.getD_eq_getElem?_getD] using h3)]
        refine' sm_le sm_nil ?l5
        case' l5 => rw [e]; wtm_at "le"
    refine' sm_end (s1_retE ?e9 ?e10)
    case' e9 => wtm_at "ev"
    case e10 => rw [enc_set]
abbrev levI (i : Item) : Int := (i.lev : Int)
theorem levs_mem : ∀ its : List Item, ((levs its : Nat) : Int) ∈ 0 :: its.map levI
  | [] => by rw [levs_nil]; simp
  | i :: r => by
    rw [levs_cons]
    rcases Nat.le_total i.lev (levs r) with z | z
    · rw [Nat.max_eq_right z]
      have := levs_mem r
      rw [List.map_cons]
      simp only [List.mem_cons] at this ⊢
      rcases this with t | t
      · exact .inl t
      · exact .inr (.inr t)
    · rw [Nat.max_eq_left z]
      simp
inductive rItems : List PyData → Res → Prop
  | mk {cells : List Int} {P ag : Int} {n : Nat} (h : 2 < P) (h9 : P ≤ 9999) (hn : 1 ≤ n) (hn2 : n ≤ 3) (hl : cells.length ≤ 63) : rItems [.list (cells.map .int), .int P, .int n, .int ag] (.ok (.dat (tIt (lawItems P n ag cells))))
local macro_rules | `(tactic| wtm_at "nm") => `(tactic| first
  | ((with_reducible show Ev _ _ (.Name "cells" _) _); exact nmF (by assumption) 0 (by rfl) rfl (by decide +kernel) (by decide +kernel) (by decide +kernel))
  | ((with_reducible show Ev _ _ (.Name "P" _) _); exact nmF (by assumption) 1 (by rfl) rfl (by decide +kernel) (by decide +kernel) (by decide +kernel))
  | ((with_reducible show Ev _ _ (.Name "many" _) _); exact nmF (by assumption) 2 (by rfl) rfl (by decide +kernel) (by decide +kernel) (by decide +kernel))
  | ((with_reducible show Ev _ _ (.Name "agains" _) _); exact nmF (by assumption) 3 (by rfl) rfl (by decide +kernel) (by decide +kernel) (by decide +kernel))
  | ((with_reducible show Ev _ _ (.Name "items" _) _); exact nmF (by assumption) 4 (by rfl) rfl (by decide +kernel) (by decide +kernel) (by decide +kernel))
  | ((with_reducible show Ev _ _ (.Name "deep" _) _); exact nmF (by assumption) 5 (by rfl) rfl (by decide +kernel) (by decide +kernel) (by decide +kernel))
  | ((with_reducible show Ev _ _ (.Name "k" _) _); exact nmF (by assumption) 6 (by rfl) rfl (by decide +kernel) (by decide +kernel) (by decide +kernel))
  | ((with_reducible show Ev _ _ (.Name "few" _) _); exact nmF (by assumption) 7 (by rfl) rfl (by decide +kernel) (by decide +kernel) (by decide +kernel))
  | ((with_reducible show Ev _ _ (.Name "level" _) _); exact nmF (by assumption) 8 (by rfl) rfl (by decide +kernel) (by decide +kernel) (by decide +kernel)))
local macro_rules | `(tactic| wtm_at "own") => `(tactic| first
  | ((with_reducible show EvS _ _ (.Name "cells" _) _ _); exact ownF (by assumption) 0 (by rfl) rfl (by decide +kernel) (by decide +kernel) (by decide +kernel))
  | ((with_reducible show EvS _ _ (.Name "P" _) _ _); exact ownF (by assumption) 1 (by rfl) rfl (by decide +kernel) (by decide +kernel) (by decide +kernel))
  | ((with_reducible show EvS _ _ (.Name "many" _) _ _); exact ownF (by assumption) 2 (by rfl) rfl (by decide +kernel) (by decide +kernel) (by decide +kernel))
  | ((with_reducible show EvS _ _ (.Name "agains" _) _ _); exact ownF (by assumption) 3 (by rfl) rfl (by decide +kernel) (by decide +kernel) (by decide +kernel))
  | ((with_reducible show EvS _ _ (.Name "items" _) _ _); exact ownF (by assumption) 4 (by rfl) rfl (by decide +kernel) (by decide +kernel) (by decide +kernel))
  | ((with_reducible show EvS _ _ (.Name "deep" _) _ _); exact ownF (by assumption) 5 (by rfl) rfl (by decide +kernel) (by decide +kernel) (by decide +kernel))
  | ((with_reducible show EvS _ _ (.Name "k" _) _ _); exact ownF (by assumption) 6 (by rfl) rfl (by decide +kernel) (by decide +kernel) (by decide +kernel))
  | ((with_reducible show EvS _ _ (.Name "few" _) _ _); exact ownF (by assumption) 7 (by rfl) rfl (by decide +kernel) (by decide +kernel) (by decide +kernel))
  | ((with_reducible show EvS _ _ (.Name "level" _) _ _); exact ownF (by assumption) 8 (by rfl) rfl (by decide +kernel) (by decide +kernel) (by decide +kernel)))
local macro_rules | `(tactic| wtm_at "ownl") => `(tactic| first
  | ((with_reducible show EvL _ _ (.Name "cells" _) _); exact ownlF (by assumption) 0 (by rfl) rfl (by decide +kernel) (by decide +kernel) (by decide +kernel))
  | ((with_reducible show EvL _ _ (.Name "P" _) _); exact ownlF (by assumption) 1 (by rfl) rfl (by decide +kernel) (by decide +kernel) (by decide +kernel))
  | ((with_reducible show EvL _ _ (.Name "many" _) _); exact ownlF (by assumption) 2 (by rfl) rfl (by decide +kernel) (by decide +kernel) (by decide +kernel))
  | ((with_reducible show EvL _ _ (.Name "agains" _) _); exact ownlF (by assumption) 3 (by rfl) rfl (by decide +kernel) (by decide +kernel) (by decide +kernel))
  | ((with_reducible show EvL _ _ (.Name "items" _) _); exact ownlF (by assumption) 4 (by rfl) rfl (by decide +kernel) (by decide +kernel) (by decide +kernel))
  | ((with_reducible show EvL _ _ (.Name "deep" _) _); exact ownlF (by assumption) 5 (by rfl) rfl (by decide +kernel) (by decide +kernel) (by decide +kernel))
  | ((with_reducible show EvL _ _ (.Name "k" _) _); exact ownlF (by assumption) 6 (by rfl) rfl (by decide +kernel) (by decide +kernel) (by decide +kernel))
  | ((with_reducible show EvL _ _ (.Name "few" _) _); exact ownlF (by assumption) 7 (by rfl) rfl (by decide +kernel) (by decide +kernel) (by decide +kernel))
  | ((with_reducible show EvL _ _ (.Name "level" _) _); exact ownlF (by assumption) 8 (by rfl) rfl (by decide +kernel) (by decide +kernel) (by decide +kernel)))
local macro_rules | `(tactic| wtm_at "set") => `(tactic| first
  | ((with_reducible show S1 _ _ (.Assign [.Name "cells" _] _ _) _); refine' setF ?st1 ?st2 0 ?st3 ?st4 ?ste ?st5; (case' st1 => assumption); (case' st2 => assumption); (case' st3 => rfl); (case' st4 => decide +kernel); (case' ste => wtm_at "ev"); (case' st5 => rfl))
  | ((with_reducible show S1 _ _ (.Assign [.Name "P" _] _ _) _); refine' setF ?st1 ?st2 1 ?st3 ?st4 ?ste ?st5; (case' st1 => assumption); (case' st2 => assumption); (case' st3 => rfl); (case' st4 => decide +kernel); (case' ste => wtm_at "ev"); (case' st5 => rfl))
  | ((with_reducible show S1 _ _ (.Assign [.Name "many" _] _ _) _); refine' setF ?st1 ?st2 2 ?st3 ?st4 ?ste ?st5; (case' st1 => assumption); (case' st2 => assumption); (case' st3 => rfl); (case' st4 => decide +kernel); (case' ste => wtm_at "ev"); (case' st5 => rfl))
  | ((with_reducible show S1 _ _ (.Assign [.Name "agains" _] _ _) _); refine' setF ?st1 ?st2 3 ?st3 ?st4 ?ste ?st5; (case' st1 => assumption); (case' st2 => assumption); (case' st3 => rfl); (case' st4 => decide +kernel); (case' ste => wtm_at "ev"); (case' st5 => rfl))
  | ((with_reducible show S1 _ _ (.Assign [.Name "items" _] _ _) _); refine' setF ?st1 ?st2 4 ?st3 ?st4 ?ste ?st5; (case' st1 => assumption); (case' st2 => assumption); (case' st3 => rfl); (case' st4 => decide +kernel); (case' ste => wtm_at "ev"); (case' st5 => rfl))
  | ((with_reducible show S1 _ _ (.Assign [.Name "deep" _] _ _) _); refine' setF ?st1 ?st2 5 ?st3 ?st4 ?ste ?st5; (case' st1 => assumption); (case' st2 => assumption); (case' st3 => rfl); (case' st4 => decide +kernel); (case' ste => wtm_at "ev"); (case' st5 => rfl))
  | ((with_reducible show S1 _ _ (.Assign [.Name "k" _] _ _) _); refine' setF ?st1 ?st2 6 ?st3 ?st4 ?ste ?st5; (case' st1 => assumption); (case' st2 => assumption); (case' st3 => rfl); (case' st4 => decide +kernel); (case' ste => wtm_at "ev"); (case' st5 => rfl))
  | ((with_reducible show S1 _ _ (.Assign [.Name "few" _] _ _) _); refine' setF ?st1 ?st2 7 ?st3 ?st4 ?ste ?st5; (case' st1 => assumption); (case' st2 => assumption); (case' st3 => rfl); (case' st4 => decide +kernel); (case' ste => wtm_at "ev"); (case' st5 => rfl))
  | ((with_reducible show S1 _ _ (.Assign [.Name "level" _] _ _) _); refine' setF ?st1 ?st2 8 ?st3 ?st4 ?ste ?st5; (case' st1 => assumption); (case' st2 => assumption); (case' st3 => rfl); (case' st4 => decide +kernel); (case' ste => wtm_at "ev"); (case' st5 => rfl)))
local macro_rules | `(tactic| wtm_at "app") => `(tactic| first
  | ((with_reducible show S1 _ _ (.Expr (.Call (.Attribute (.Name "cells" _) _ _) _ _ _) _) _); refine' appF ?ap1 0 ?ap2 ?ap3 ?ap4 ?ape ?aps ?ap5 ?ap6; (case' ap1 => assumption); (case' ap2 => rfl); (case' ap3 => rfl); (case' ap4 => decide +kernel); (case' ape => wtm_at "ev"); (case' aps => try (wtm_at "sz")); (case' ap5 => decide +kernel); (case' ap6 => decide +kernel))
  | ((with_reducible show S1 _ _ (.Expr (.Call (.Attribute (.Name "P" _) _ _) _ _ _) _) _); refine' appF ?ap1 1 ?ap2 ?ap3 ?ap4 ?ape ?aps ?ap5 ?ap6; (case' ap1 => assumption); (case' ap2 => rfl); (case' ap3 => rfl); (case' ap4 => decide +kernel); (case' ape => wtm_at "ev"); (case' aps => try (wtm_at "sz")); (case' ap5 => decide +kernel); (case' ap6 => decide +kernel))
  | ((with_reducible show S1 _ _ (.Expr (.Call (.Attribute (.Name "many" _) _ _) _ _ _) _) _); refine' appF ?ap1 2 ?ap2 ?ap3 ?ap4 ?ape ?aps ?ap5 ?ap6; (case' ap1 => assumption); (case' ap2 => rfl); (case' ap3 => rfl); (case' ap4 => decide +kernel); (case' ape => wtm_at "ev"); (case' aps => try (wtm_at "sz")); (case' ap5 => decide +kernel); (case' ap6 => decide +kernel))
  | ((with_reducible show S1 _ _ (.Expr (.Call (.Attribute (.Name "agains" _) _ _) _ _ _) _) _); refine' appF ?ap1 3 ?ap2 ?ap3 ?ap4 ?ape ?aps ?ap5 ?ap6; (case' ap1 => assumption); (case' ap2 => rfl); (case' ap3 => rfl); (case' ap4 => decide +kernel); (case' ape => wtm_at "ev"); (case' aps => try (wtm_at "sz")); (case' ap5 => decide +kernel); (case' ap6 => decide +kernel))
  | ((with_reducible show S1 _ _ (.Expr (.Call (.Attribute (.Name "items" _) _ _) _ _ _) _) _); refine' appF ?ap1 4 ?ap2 ?ap3 ?ap4 ?ape ?aps ?ap5 ?ap6; (case' ap1 => assumption); (case' ap2 => rfl); (case' ap3 => rfl); (case' ap4 => decide +kernel); (case' ape => wtm_at "ev"); (case' aps => try (wtm_at "sz")); (case' ap5 => decide +kernel); (case' ap6 => decide +kernel))
  | ((with_reducible show S1 _ _ (.Expr (.Call (.Attribute (.Name "deep" _) _ _) _ _ _) _) _); refine' appF ?ap1 5 ?ap2 ?ap3 ?ap4 ?ape ?aps ?ap5 ?ap6; (case' ap1 => assumption); (case' ap2 => rfl); (case' ap3 => rfl); (case' ap4 => decide +kernel); (case' ape => wtm_at "ev"); (case' aps => try (wtm_at "sz")); (case' ap5 => decide +kernel); (case' ap6 => decide +kernel))
  | ((with_reducible show S1 _ _ (.Expr (.Call (.Attribute (.Name "k" _) _ _) _ _ _) _) _); refine' appF ?ap1 6 ?ap2 ?ap3 ?ap4 ?ape ?aps ?ap5 ?ap6; (case' ap1 => assumption); (case' ap2 => rfl); (case' ap3 => rfl); (case' ap4 => decide +kernel); (case' ape => wtm_at "ev"); (case' aps => try (wtm_at "sz")); (case' ap5 => decide +kernel); (case' ap6 => decide +kernel))
  | ((with_reducible show S1 _ _ (.Expr (.Call (.Attribute (.Name "few" _) _ _) _ _ _) _) _); refine' appF ?ap1 7 ?ap2 ?ap3 ?ap4 ?ape ?aps ?ap5 ?ap6; (case' ap1 => assumption); (case' ap2 => rfl); (case' ap3 => rfl); (case' ap4 => decide +kernel); (case' ape => wtm_at "ev"); (case' aps => try (wtm_at "sz")); (case' ap5 => decide +kernel); (case' ap6 => decide +kernel))
  | ((with_reducible show S1 _ _ (.Expr (.Call (.Attribute (.Name "level" _) _ _) _ _ _) _) _); refine' appF ?ap1 8 ?ap2 ?ap3 ?ap4 ?ape ?aps ?ap5 ?ap6; (case' ap1 => assumption); (case' ap2 => rfl); (case' ap3 => rfl); (case' ap4 => decide +kernel); (case' ape => wtm_at "ev"); (case' aps => try (wtm_at "sz")); (case' ap5 => decide +kernel); (case' ap6 => decide +kernel)))
local macro_rules | `(tactic| wtm_at "put") => `(tactic| first
  | ((with_reducible show S1 _ _ (.Assign [.Subscript (.Name "cells" _) _ _] _ _) _); refine' putF ?pu1 0 ?pu2 ?pu3 ?pu4 ?pue ?pui ?pu5 ?pu6 ?pu7 ?pu8; (case' pu1 => assumption); (case' pu2 => rfl); (case' pu3 => rfl); (case' pu4 => decide +kernel); (case' pue => wtm_at "ev"); (case' pui => wtm_at "ev"); (case' pu5 => try (wtm_at "sd")); (case' pu6 => try (wtm_at "sd")); (case' pu7 => decide +kernel); (case' pu8 => decide +kernel))
  | ((with_reducible show S1 _ _ (.Assign [.Subscript (.Name "P" _) _ _] _ _) _); refine' putF ?pu1 1 ?pu2 ?pu3 ?pu4 ?pue ?pui ?pu5 ?pu6 ?pu7 ?pu8; (case' pu1 => assumption); (case' pu2 => rfl); (case' pu3 => rfl); (case' pu4 => decide +kernel); (case' pue => wtm_at "ev"); (case' pui => wtm_at "ev"); (case' pu5 => try (wtm_at "sd")); (case' pu6 => try (wtm_at "sd")); (case' pu7 => decide +kernel); (case' pu8 => decide +kernel))
  | ((with_reducible show S1 _ _ (.Assign [.Subscript (.Name "many" _) _ _] _ _) _); refine' putF ?pu1 2 ?pu2 ?pu3 ?pu4 ?pue ?pui ?pu5 ?pu6 ?pu7 ?pu8; (case' pu1 => assumption); (case' pu2 => rfl); (case' pu3 => rfl); (case' pu4 => decide +kernel); (case' pue => wtm_at "ev"); (case' pui => wtm_at "ev"); (case' pu5 => try (wtm_at "sd")); (case' pu6 => try (wtm_at "sd")); (case' pu7 => decide +kernel); (case' pu8 => decide +kernel))
  | ((with_reducible show S1 _ _ (.Assign [.Subscript (.Name "agains" _) _ _] _ _) _); refine' putF ?pu1 3 ?pu2 ?pu3 ?pu4 ?pue ?pui ?pu5 ?pu6 ?pu7 ?pu8; (case' pu1 => assumption); (case' pu2 => rfl); (case' pu3 => rfl); (case' pu4 => decide +kernel); (case' pue => wtm_at "ev"); (case' pui => wtm_at "ev"); (case' pu5 => try (wtm_at "sd")); (case' pu6 => try (wtm_at "sd")); (case' pu7 => decide +kernel); (case' pu8 => decide +kernel))
  | ((with_reducible show S1 _ _ (.Assign [.Subscript (.Name "items" _) _ _] _ _) _); refine' putF ?pu1 4 ?pu2 ?pu3 ?pu4 ?pue ?pui ?pu5 ?pu6 ?pu7 ?pu8; (case' pu1 => assumption); (case' pu2 => rfl); (case' pu3 => rfl); (case' pu4 => decide +kernel); (case' pue => wtm_at "ev"); (case' pui => wtm_at "ev"); (case' pu5 => try (wtm_at "sd")); (case' pu6 => try (wtm_at "sd")); (case' pu7 => decide +kernel); (case' pu8 => decide +kernel))
  | ((with_reducible show S1 _ _ (.Assign [.Subscript (.Name "deep" _) _ _] _ _) _); refine' putF ?pu1 5 ?pu2 ?pu3 ?pu4 ?pue ?pui ?pu5 ?pu6 ?pu7 ?pu8; (case' pu1 => assumption); (case' pu2 => rfl); (case' pu3 => rfl); (case' pu4 => decide +kernel); (case' pue => wtm_at "ev"); (case' pui => wtm_at "ev"); (case' pu5 => try (wtm_at "sd")); (case' pu6 => try (wtm_at "sd")); (case' pu7 => decide +kernel); (case' pu8 => decide +kernel))
  | ((with_reducible show S1 _ _ (.Assign [.Subscript (.Name "k" _) _ _] _ _) _); refine' putF ?pu1 6 ?pu2 ?pu3 ?pu4 ?pue ?pui ?pu5 ?pu6 ?pu7 ?pu8; (case' pu1 => assumption); (case' pu2 => rfl); (case' pu3 => rfl); (case' pu4 => decide +kernel); (case' pue => wtm_at "ev"); (case' pui => wtm_at "ev"); (case' pu5 => try (wtm_at "sd")); (case' pu6 => try (wtm_at "sd")); (case' pu7 => decide +kernel); (case' pu8 => decide +kernel))
  | ((with_reducible show S1 _ _ (.Assign [.Subscript (.Name "few" _) _ _] _ _) _); refine' putF ?pu1 7 ?pu2 ?pu3 ?pu4 ?pue ?pui ?pu5 ?pu6 ?pu7 ?pu8; (case' pu1 => assumption); (case' pu2 => rfl); (case' pu3 => rfl); (case' pu4 => decide +kernel); (case' pue => wtm_at "ev"); (case' pui => wtm_at "ev"); (case' pu5 => try (wtm_at "sd")); (case' pu6 => try (wtm_at "sd")); (case' pu7 => decide +kernel); (case' pu8 => decide +kernel))
  | ((with_reducible show S1 _ _ (.Assign [.Subscript (.Name "level" _) _ _] _ _) _); refine' putF ?pu1 8 ?pu2 ?pu3 ?pu4 ?pue ?pui ?pu5 ?pu6 ?pu7 ?pu8; (case' pu1 => assumption); (case' pu2 => rfl); (case' pu3 => rfl); (case' pu4 => decide +kernel); (case' pue => wtm_at "ev"); (case' pui => wtm_at "ev"); (case' pu5 => try (wtm_at "sd")); (case' pu6 => try (wtm_at "sd")); (case' pu7 => decide +kernel); (case' pu8 => decide +kernel)))
local macro_rules | `(tactic| wtm_at "reto") => `(tactic| first
  | ((with_reducible show S1 _ _ (.Return (some (.Name "cells" _)) _) _); exact retOF (by assumption) 0 (by rfl) rfl (by decide +kernel) (by decide +kernel) (by decide +kernel))
  | ((with_reducible show S1 _ _ (.Return (some (.Name "P" _)) _) _); exact retOF (by assumption) 1 (by rfl) rfl (by decide +kernel) (by decide +kernel) (by decide +kernel))
  | ((with_reducible show S1 _ _ (.Return (some (.Name "many" _)) _) _); exact retOF (by assumption) 2 (by rfl) rfl (by decide +kernel) (by decide +kernel) (by decide +kernel))
  | ((with_reducible show S1 _ _ (.Return (some (.Name "agains" _)) _) _); exact retOF (by assumption) 3 (by rfl) rfl (by decide +kernel) (by decide +kernel) (by decide +kernel))
  | ((with_reducible show S1 _ _ (.Return (some (.Name "items" _)) _) _); exact retOF (by assumption) 4 (by rfl) rfl (by decide +kernel) (by decide +kernel) (by decide +kernel))
  | ((with_reducible show S1 _ _ (.Return (some (.Name "deep" _)) _) _); exact retOF (by assumption) 5 (by rfl) rfl (by decide +kernel) (by decide +kernel) (by decide +kernel))
  | ((with_reducible show S1 _ _ (.Return (some (.Name "k" _)) _) _); exact retOF (by assumption) 6 (by rfl) rfl (by decide +kernel) (by decide +kernel) (by decide +kernel))
  | ((with_reducible show S1 _ _ (.Return (some (.Name "few" _)) _) _); exact retOF (by assumption) 7 (by rfl) rfl (by decide +kernel) (by decide +kernel) (by decide +kernel))
  | ((with_reducible show S1 _ _ (.Return (some (.Name "level" _)) _) _); exact retOF (by assumption) 8 (by rfl) rfl (by decide +kernel) (by decide +kernel) (by decide +kernel)))
local macro_rules | `(tactic| wtm_at "tgt") => `(tactic| first
  | ((with_reducible show PG _ (.Name "cells" _) _); exact tgF (by assumption) (by assumption) 0 (by rfl) (by decide +kernel))
  | ((with_reducible show PG _ (.Name "P" _) _); exact tgF (by assumption) (by assumption) 1 (by rfl) (by decide +kernel))
  | ((with_reducible show PG _ (.Name "many" _) _); exact tgF (by assumption) (by assumption) 2 (by rfl) (by decide +kernel))
  | ((with_reducible show PG _ (.Name "agains" _) _); exact tgF (by assumption) (by assumption) 3 (by rfl) (by decide +kernel))
  | ((with_reducible show PG _ (.Name "items" _) _); exact tgF (by assumption) (by assumption) 4 (by rfl) (by decide +kernel))
  | ((with_reducible show PG _ (.Name "deep" _) _); exact tgF (by assumption) (by assumption) 5 (by rfl) (by decide +kernel))
  | ((with_reducible show PG _ (.Name "k" _) _); exact tgF (by assumption) (by assumption) 6 (by rfl) (by decide +kernel))
  | ((with_reducible show PG _ (.Name "few" _) _); exact tgF (by assumption) (by assumption) 7 (by rfl) (by decide +kernel))
  | ((with_reducible show PG _ (.Name "level" _) _); exact tgF (by assumption) (by assumption) 8 (by rfl) (by decide +kernel)))
theorem ok_items {f : Addr} {fd : FuncData} (F : Fun K "_law_items" "_law_items" s__law_items f fd) (hm : mg "_law_items" = some (.ref f)) (b : Binds K fd ["cells", "P", "many", "agains"] []) (mr : mg "range" = none) (ml : mg "len" = none) (mmi : mg "min" = none) (mma : mg "max" = none) (mt : mg "tuple" = none)
    (Gc : Fn P w K mg base 1 "_law_count" ["cell"] rCount) (Gs : Fn P w K mg base 2 "_law_set" ["cell", "more", "P", "many"] rSet) : Fn P w K mg base 3 "_law_items" ["cells", "P", "many", "agains"] rItems := by
  refine fnF F hm b sc__law_items (fun ds r h => by cases h; rfl) fun X hX hT ds r h => ?_
  cases h with
  | @mk cells p ag n h h9 hn hn2 hl =>
    have el : ((cells.map PyData.int).length : Int) = cells.length := by simp
    have p1 : 1 < p := by omega
    refine' sm_cons ?s1 ?_
    case' s1 => wtm_at "st"
    refine' sm_cons ?s2 ?_
    case' s2 => wtm_at "st"
    refine' sm_cons ?s3 ?_
    case' s3 =>
      refine' forN hX (n := min cells.length 60 / 2) (fun i : Nat => .int ((2 * i : Nat) : Int)) 6 (fun i => [.dat (.list (cells.map .int)), .dat (.int p), .dat (.int n), .dat (.int (itemsGo p n cells ag i).2), .own (.lst ((itemsGo p n cells ag i).1.map Item.enc)), .own (.lst (((itemsGo p n cells ag i).1.map levI).map .int)), .un, .un, .un]) ?i3 ?r3 ?g3 ?l3 (fun _ => rfl) (fun i hi => ?b3)
      case' i3 =>
        refine' range3F hX (lo := 0) (hi := min ((cells.map PyData.int).length : Int) 60 - 1) (c := 2) (n := min cells.length 60 / 2) ?x1 mr ?x2 (by decide) (by decide) ?x3 ?x4
        case' x1 => decide +kernel
        case' x2 => wtm_at "args"
        case x3 =>
          rw [el]
          exact small_up (by omega) (by omega) (by omega) (by omega) (by omega) (by omega)
        case x4 =>
          rw [el, size_up (by omega)]
          omega
      case r3 =>
        refine List.map_congr_left fun i _ => ?_
        congr 1
        omega
      case' g3 => wtm_at "tgt"
      case' l3 => wtm_at "le"
      obtain ⟨hg, hlv, hc⟩ := itemsGo_good (cells := cells) (ag := ag) p1 hn i
      have hln := len_le_cnts (itemsGo p n cells ag i).1
      rw [hc] at hln
      have est : itemsGo p n cells ag (i + 1) = itemsStep p n (itemsGo p n cells ag i) (cells.getD (2 * i) 0) (cells.getD (2 * i + 1) 0) := rfl
      rw [est]
      clear est
      generalize itemsGo p n cells ag i = st at *
      obtain ⟨its, ag'⟩ := st
      simp only at hg hlv hc hln
      have i2 : i < 30 := by omega
      have hlen1 : (its.map Item.enc).length = its.length := by simp
      have hk1 : 2 * i < cells.length := by omega
      have hk2 : 2 * i + 1 < cells.length := by omega
      have hk3 : (((2 * i : Nat) : Int) + 1).toNat = 2 * i + 1 := by omega
      generalize hC : cells.getD (2 * i) 0 = c
      generalize hD : cells.getD (2 * i + 1) 0 = d
      refine' sm_cons (A1 := [.dat (.list (cells.map .int)), .dat (.int p), .dat (.int n), .dat (.int ag'), .own (.lst (its.map Item.enc)), .own (.lst ((its.map levI).map .int)), .dat (.int ((2 * i : Nat) : Int)), .dat (.int (fewN its c)), .un]) ?s4 ?_
      case' s4 =>
        refine' s1_le ?s5 ?l5
        case' s5 => wtm_at "st"
        case' l5 =>
          have e : (((its.map Item.enc).length : Int) - min (cells.getD (2 * i) 0 / 4 % 4) ((its.map Item.enc).length : Int)) = (fewN its c : Int) := by
            rw [hlen1, hC]; unfold fewN; omega
          rw [e]
          wtm_at "le"
      generalize hF : fewN its c = fw
      refine' sm_cons (A1 := [.dat (.list (cells.map .int)), .dat (.int p), .dat (.int n), .dat (.int ag'), .own (.lst (its.map Item.enc)), .own (.lst ((its.map levI).map .int)), .dat (.int ((2 * i : Nat) : Int)), .dat (.int fw), .dat (.int (1 + (levs (its.drop fw) : Int)))]) ?s6 ?_
      case' s6 =>
        refine' setF hX hT 8 (by rfl) ?q1 ?q2 (by rfl)
        case' q1 => decide +kernel
        case' q2 =>
          refine' ev_bin (d1 := .int 1) (d2 := .int (levs (its.drop fw))) ?m1 ?m2 BinD.add
          case' m1 => wtm_at "ev"
          case' m2 =>
            refine' maxLF hX (ns := 0 :: (its.drop fw).map levI) ?y1 mma ?y2 ?y3 ?y4
            case' y1 => decide +kernel
            case' y2 =>
              refine' evs_eq (evs_new (ev_catL (ds := [.int 0]) (es := ((its.map levI).drop (fw : Int).toNat).map .int) ?z1 ?z2 ?z3)) ?z4
              case' z1 => wtm_at "evL"
              case' z2 => wtm_at "evL"
              case z3 => rw [sizeLine_eq]; simp; omega
              case z4 => simp
            case y3 => exact levs_mem _
            case y4 =>
              intro y hy
              rcases List.mem_cons.mp hy with rfl | hy
              · omega
              · obtain ⟨it, h1, rfl⟩ := List.mem_map.mp hy
                exact Int.ofNat_le.mpr (lev_le_levs h1)
      refine' sm_one ?s7
      case' s7 =>
        refine' s1_if ?c7 (fun h7 => ?t7) fun h7 => ?f7
        case' c7 => wtm_at "test"
        case' t7 =>
          have hst : itemsStep p n (its, ag') c d = (its.take fw ++ [Item.again (lawCount d) (its.drop fw)], ag' - 1) := by
            unfold itemsStep
            rw [hC] at h7
            rw [if_pos (by
              show _ ∧ 1 + levs (its.drop (fewN its c)) < 4 ∧ 0 < ag'
              rw [hF]
              simp only [Bool.and_eq_true, decide_eq_true_eq] at h7
              omega)]
            show (its.take (fewN its c) ++ _, _) = _
            rw [hF]
          rw [hst]
          refine' sm_cons (A1 := [.dat (.list (cells.map .int)), .dat (.int p), .dat (.int n), .dat (.int ag'), .own (.lst ((its.take fw ++ [Item.again (lawCount d) (its.drop fw)]).map Item.enc)), .own (.lst ((its.map levI).map .int)), .dat (.int ((2 * i : Nat) : Int)), .dat (.int fw), .dat (.int (1 + (levs (its.drop fw) : Int)))]) ?s8 ?_
          case' s8 =>
            refine' setF hX hT 4 (by rfl) ?q3 ?q4 (by rfl)
            case' q3 => decide +kernel
            case' q4 =>
              refine' ev_eq (ev_catL (ds := (its.take (fw : Int).toNat).map Item.enc) (es := [.tuple [.str "again", .int (lawCount d), .tuple ((its.drop (fw : Int).toNat).map Item.enc)]]) ?z5 ?z6 ?z7) ?z8
              case' z5 => wtm_at "evL"
              case' z6 =>
                refine' evl_new (ev_lst (ea_cons (ev_tup (ea_cons ?w1 (ea_cons ?w2 (ea_cons ?w3 ea_nil))) ?hz1) ea_nil) ?hz2)
                case hz1 => rw [sizeLine_eq]; simp
                case hz2 => rw [sizeLine_eq]; simp
                case' w1 => wtm_at "ev"
                case' w2 =>
                  refine' ev_eq ?w4 ?w5
                  case' w4 => wtm_at "ev"
                  case w5 => rw [hk3, hD]
                case' w3 => wtm_at "ev"
              case z7 => rw [sizeLine_eq]; simp; omega
              case z8 =>
                rw [List.map_append, List.map_cons, List.map_nil, enc_again, Int.toNat_natCast]
          refine' sm_cons ?s9 ?_
          case' s9 =>
            refine' setF hX hT 5 (by rfl) ?q5 ?q6 (by rfl)
            case' q5 => decide +kernel
            case' q6 =>
              refine' ev_eq (ev_catL (ds := ((its.map levI).take (fw : Int).toNat).map .int) (es := [.int (1 + (levs (its.drop fw) : Int))]) ?z9 ?za ?zb) (c' := .own (.lst (((its.take fw ++ [Item.again (lawCount d) (its.drop fw)]).map levI).map .int))) ?zc
              case' z9 => wtm_at "evL"
              case' za => wtm_at "evL"
              case zb => rw [sizeLine_eq]; simp; omega
              case zc =>
                simp [levI, lev_again]
          refine' sm_le (sm_one ?sa) ?la
          case' sa => wtm_at "st"
          case' la => wtm_at "le"
        case' f7 =>
          have hst : itemsStep p n (its, ag') c d = (its ++ [lawSet (c / 4) d p n], ag') := by
            unfold itemsStep
            rw [hC] at h7
            rw [if_neg (by
              show ¬ (_ ∧ 1 + levs (its.drop (fewN its c)) < 4 ∧ 0 < ag')
              rw [hF]
              intro z
              simp only [Bool.and_eq_false_iff, decide_eq_false_iff_not] at h7
              omega)]
          rw [hst]
          refine' sm_cons (A1 := [.dat (.list (cells.map .int)), .dat (.int p), .dat (.int n), .dat (.int ag'), .own (.lst ((its ++ [lawSet (c / 4) d p n]).map Item.enc)), .own (.lst ((its.map levI).map .int)), .dat (.int ((2 * i : Nat) : Int)), .dat (.int fw), .dat (.int (1 + (levs (its.drop fw) : Int)))]) ?sb ?_
          case' sb =>
            refine' s1_le ?sc ?lc
            case' sc => wtm_at "st"
            case' lc =>
              rw [hk3, hC, hD, List.map_append]
              wtm_at "le"
          refine' sm_le (sm_one ?sd) ?ld
          case' sd => wtm_at "st"
          case' ld =>
            have e0 : ((its ++ [lawSet (c / 4) d p n]).map levI).map PyData.int = (its.map levI).map .int ++ [.int 0] := by
              unfold lawSet
              simp [levI, lev_set]
            rw [e0]
            wtm_at "le"
    refine' sm_end (s1_retE ?e9 ?e10)
    case' e9 => wtm_at "ev"
    case e10 => rfl
end
end W

namespace W
open PySem PySem.Spec PyProof.Rows L2 LR
/-! tables of items -/
mutual
def Item.tab (P : Int) (n : Nat) : Item → List (List Int)
  | .set x f => setting n x.toNat f
  | .again m its => pw P n (tabs P n its) m.toNat
def tabs (P : Int) (n : Nat) : List Item → List (List Int)
  | [] => idle n
  | i :: r => thenT P (i.tab P n) (tabs P n r)
end
theorem tab_set {P : Int} {n : Nat} {x : Int} {f : List Int} : (Item.set x f).tab P n = setting n x.toNat f := by rw [Item.tab]
theorem tab_again {P : Int} {n : Nat} {m : Int} {its : List Item} : (Item.again m its).tab P n = pw P n (tabs P n its) m.toNat := by rw [Item.tab]
theorem tabs_nil {P : Int} {n : Nat} : tabs P n [] = idle n := by rw [tabs]
theorem tabs_cons {P : Int} {n : Nat} {i : Item} {r : List Item} : tabs P n (i :: r) = thenT P (i.tab P n) (tabs P n r) := by rw [tabs]
theorem setting_tbl {P : Int} {n x : Nat} {f : List Int} (hP : 1 < P) (hf : f.length = n + 1) (ho : OnW P f) : Tbl P n (setting n x f) where
  len := by unfold setting; rw [List.length_set, idle_len]
  row := fun g hg => by
    unfold setting at hg
    rcases List.mem_or_eq_of_mem_set hg with h | h
    · exact (idle_tbl hP).row g h
    · rw [h]; exact ⟨hf, ho⟩
section
variable {P : Int} {n : Nat} (hP : 1 < P) (hn : 1 ≤ n)
include hP hn
mutual
theorem tab_tbl : ∀ {i : Item}, i.Good P n → Tbl P n (i.tab P n)
  | .set x f, h => by
    obtain ⟨_, _, a, b⟩ := good_set.mp h
    rw [tab_set]
    exact setting_tbl hP a b
  | .again m its, h => by
    obtain ⟨_, _, a⟩ := good_again.mp h
    rw [tab_again]
    exact pw_tbl hP hn (tabs_tbl a) _
theorem tabs_tbl : ∀ {its : List Item}, Goods P n its → Tbl P n (tabs P n its)
  | [], _ => by rw [tabs_nil]; exact idle_tbl hP
  | i :: r, h => by
    rw [Goods] at h
    rw [tabs_cons]
    exact then_tbl (by omega) hn (tab_tbl h.1) (tabs_tbl h.2)
end
theorem tabs_append : ∀ {a b : List Item}, Goods P n a → Goods P n b → tabs P n (a ++ b) = thenT P (tabs P n a) (tabs P n b)
  | [], b, _, hb => by rw [tabs_nil, idle_then hP hn (tabs_tbl hP hn hb)]; rfl
  | i :: r, b, ha, hb => by
    rw [Goods] at ha
    show tabs P n (i :: (r ++ b)) = _
    rw [tabs_cons, tabs_cons, tabs_append ha.2 hb, then_assoc (by omega) hn (tab_tbl hP hn ha.1) (tabs_tbl hP hn ha.2) (tabs_tbl hP hn hb)]
theorem tabs_one {i : Item} (h : i.Good P n) : tabs P n [i] = i.tab P n := by
  rw [tabs_cons, tabs_nil, then_idle hP hn (tab_tbl hP hn h)]
theorem tabs_snoc {its : List Item} {k : Nat} (h : Goods P n its) (hk : k < its.length) : tabs P n (its.take (k + 1)) = thenT P (tabs P n (its.take k)) ((its[k]).tab P n) := by
  rw [List.take_add_one, List.getElem?_eq_getElem hk, Option.toList_some, tabs_append hP hn (goods_take h) (goods_one (goods_get h hk)), tabs_one hP hn (goods_get h hk)]
theorem tabs_split {its : List Item} (k : Nat) (h : Goods P n its) : thenT P (tabs P n (its.take k)) (tabs P n (its.drop k)) = tabs P n its := by
  rw [← tabs_append hP hn (goods_take h) (goods_drop h), List.take_append_drop]
end
/-! how many deeds -/
mutual
def Item.deeds : Item → Int
  | .set _ _ => 1
  | .again m its => m * deedsL its
def deedsL : List Item → Int
  | [] => 0
  | i :: r => i.deeds + deedsL r
end
theorem deeds_set {x : Int} {f : List Int} : (Item.set x f).deeds = 1 := by rw [Item.deeds]
theorem deeds_again {m : Int} {its : List Item} : (Item.again m its).deeds = m * deedsL its := by rw [Item.deeds]
theorem deeds_nil : deedsL [] = 0 := by rw [deedsL]
theorem deeds_cons {i : Item} {r : List Item} : deedsL (i :: r) = i.deeds + deedsL r := by rw [deedsL]
theorem deeds_append : ∀ (a b : List Item), deedsL (a ++ b) = deedsL a + deedsL b
  | [], b => by rw [deeds_nil, Int.zero_add]; rfl
  | i :: r, b => by
    show deedsL (i :: (r ++ b)) = _
    rw [deeds_cons, deeds_cons, deeds_append r b, Int.add_assoc]
theorem deeds_one {i : Item} : deedsL [i] = i.deeds := by rw [deeds_cons, deeds_nil, Int.add_zero]
theorem deeds_snoc {its : List Item} {k : Nat} (hk : k < its.length) : deedsL (its.take (k + 1)) = deedsL (its.take k) + (its[k]).deeds := by
  rw [List.take_add_one, List.getElem?_eq_getElem hk, Option.toList_some, deeds_append, deeds_one]
theorem deeds_split (k : Nat) (a : List Item) : deedsL (a.take k) + deedsL (a.drop k) = deedsL a := by rw [← deeds_append, List.take_append_drop]
def bigC : Int := 1000000000000000000000000000000
theorem bigC_pow (k : Nat) : 1 ≤ bigC ^ k := by
  have : 0 < bigC ^ k := Int.pow_pos (by decide)
  omega
theorem bigC_mono {i j : Nat} (h : i ≤ j) : bigC ^ i ≤ bigC ^ j := by
  obtain ⟨k, rfl⟩ := Nat.exists_eq_add_of_le h
  rw [Int.pow_add]
  have a := bigC_pow i
  have b := bigC_pow k
  have : bigC ^ i * 1 ≤ bigC ^ i * bigC ^ k := Int.mul_le_mul_of_nonneg_left b (by omega)
  omega
mutual
theorem deeds_bound {P : Int} {n : Nat} : ∀ {i : Item}, i.Good P n → 0 ≤ i.deeds ∧ i.deeds ≤ i.cnt * bigC ^ i.lev
  | .set x f, _ => by
    rw [deeds_set, cnt_set, lev_set, Int.pow_zero]
    omega
  | .again m its, h => by
    obtain ⟨a, b, c⟩ := good_again.mp h
    obtain ⟨d, e⟩ := deedsL_bound c
    rw [deeds_again, cnt_again, lev_again]
    refine ⟨Int.mul_nonneg a d, ?_⟩
    have p := bigC_pow (levs its)
    have e1 : m * deedsL its ≤ bigC * ((cnts its : Int) * bigC ^ levs its) := Int.mul_le_mul b e d (by decide)
    have e2 : ((1 + cnts its : Nat) : Int) * bigC ^ (1 + levs its) = bigC * bigC ^ levs its + bigC * ((cnts its : Int) * bigC ^ levs its) := by
      rw [Int.pow_add, Int.pow_one, Int.natCast_add, Int.add_mul]
      simp only [Int.mul_left_comm, Int.natCast_one, Int.one_mul]
    rw [e2]
    have e3 : 0 ≤ bigC * bigC ^ levs its := Int.mul_nonneg (by decide) (by omega)
    omega
theorem deedsL_bound {P : Int} {n : Nat} : ∀ {its : List Item}, Goods P n its → 0 ≤ deedsL its ∧ deedsL its ≤ cnts its * bigC ^ levs its
  | [], _ => by
    rw [deeds_nil, cnts_nil]
    simp
  | i :: r, h => by
    rw [Goods] at h
    obtain ⟨a, b⟩ := deeds_bound h.1
    obtain ⟨c, d⟩ := deedsL_bound h.2
    rw [deeds_cons, cnts_cons, levs_cons]
    refine ⟨by omega, ?_⟩
    have p1 := bigC_mono (Nat.le_max_left i.lev (levs r))
    have p2 := bigC_mono (Nat.le_max_right i.lev (levs r))
    have q1 : (i.cnt : Int) * bigC ^ i.lev ≤ i.cnt * bigC ^ max i.lev (levs r) := Int.mul_le_mul_of_nonneg_left p1 (by omega)
    have q2 : (cnts r : Int) * bigC ^ levs r ≤ cnts r * bigC ^ max i.lev (levs r) := Int.mul_le_mul_of_nonneg_left p2 (by omega)
    rw [Int.natCast_add, Int.add_mul]
    omega
end
theorem deeds_small {P : Int} {n : Nat} {its : List Item} (h : Goods P n its) (h1 : levs its ≤ 5) (h2 : cnts its ≤ 1000) : 0 ≤ deedsL its ∧ (deedsL its).natAbs < 2 ^ 600 := by
  obtain ⟨a, b⟩ := deedsL_bound h
  have c := bigC_mono h1
  have d : (cnts its : Int) * bigC ^ levs its ≤ 1000 * bigC ^ 5 := Int.mul_le_mul (by omega) c (by have := bigC_pow (levs its); omega) (by decide)
  have e : (1000 : Int) * bigC ^ 5 < 2 ^ 600 := by decide
  have f : deedsL its < (2 ^ 600 : Int) := by omega
  refine ⟨a, ?_⟩
  have g : ((2 ^ 600 : Nat) : Int) = (2 ^ 600 : Int) := by decide
  omega
theorem mulW_deeds {P : Int} {n : Nat} {m : Int} {its : List Item} (h0 : 0 ≤ m) (h9 : m ≤ 1000000000000000000000000000000) (h : Goods P n its) (h1 : levs its ≤ 5) (h2 : cnts its ≤ 1000) : CMulW m (deedsL its) := by
  have e : m.natAbs < 2 ^ 100 := by
    have : (1000000000000000000000000000000 : Nat) < 2 ^ 100 := by decide
    omega
  exact wide_mul e (deeds_small h h1 h2).2 (by decide) (by decide) (by decide)
end W

namespace W
open PySem PySem.Spec PyProof.Rows L2 LR
section
variable {P : Program} {w : World} {K : PySem.W.Frag} {mg : Str → Option Value} {base : Heap}
theorem big_lt : (1000000000000000000000000000000 : Nat) < 2 ^ 1000 := by decide
theorem roundsG {P : Int} {n : Nat} {t : List (List Int)} {i : Int} (h : 1 < P) (h9 : P ≤ 9999) (hn : 1 ≤ n) (hn2 : n ≤ 100) (ht : Tbl P n t) (h0 : 0 ≤ i) (hi : i ≤ 1000000000000000000000000000000) : rRounds [.int P, tT t, .int i] (.ok (.dat (tT (pw P n t i.toNat)))) := by
  obtain ⟨m, rfl⟩ := Int.eq_ofNat_of_zero_le h0
  rw [← rounds_pw h hn ht, Int.toNat_natCast]
  have := big_lt
  exact .mk h h9 hn hn2 ht (by omega)
theorem rRoundsT {P : Int} {n : Nat} {t : List (List Int)} {i : Int} (ht : Tbl P n t) (h : 1 < P) (h9 : P ≤ 9999) (hn : 1 ≤ n) (hn2 : n ≤ 100) (h0 : 0 ≤ i) (hi : i ≤ 1000000000000000000000000000000) : rRounds [.int P, tT t, .int i] (.ok (.dat (tT (pw P n t i.toNat)))) := roundsG h h9 hn hn2 ht h0 hi
theorem rThenT {P : Int} {n : Nat} {one other : List (List Int)} (h1 : Tbl P n one) (h2 : Tbl P n other) (h : 0 < P) (h9 : P ≤ 9999) (hn : n ≤ 100) : rThen [.int P, tT one, tT other] (.ok (.dat (tT (thenT P one other)))) := rThen_of h h9 hn h1 h2
theorem rTurnedT {P : Int} {n : Nat} {t : List (List Int)} {s : List Int} (ht : Tbl P n t) (hs : s.length = n) (h : 0 < P) (h9 : P ≤ 9999) (hn : n ≤ 100) : rTurned [.int P, tT t, tI s] (.ok (.dat (tI (turned P t s)))) :=
  .mk h (by rw [hs]; exact ht.frm h9) (by omega) (by rw [ht.len]; exact hn)
theorem rLTurnedT {P : Int} {n : Nat} {t : List (List Int)} {s : List Int} (ht : Tbl P n t) (hs : s.length = n) (h : 0 < P) (h9 : P ≤ 9999) (hn : n ≤ 100) : rLTurned [.int P, tT t, tI s] (.ok (.dat (tI (turned P t s)))) :=
  .mk h (by rw [hs]; exact ht.frm h9) (by omega) (by rw [ht.len]; exact hn)
/-- table_of, of so many agains within one another -/
inductive rTab (d : Nat) : List PyData → Res → Prop
  | mk {P : Int} {n : Nat} {its : List Item} (h : 1 < P) (h9 : P ≤ 9999) (hn : 1 ≤ n) (hn2 : n ≤ 100) (hg : Goods P n its) (hl : levs its ≤ d) : rTab d [.int P, .int n, tIt its] (.ok (.dat (tT (tabs P n its))))
theorem rTab_nil {d : Nat} {P : Int} {n : Nat} (h : 1 < P) (h9 : P ≤ 9999) (hn : 1 ≤ n) (hn2 : n ≤ 100) : rTab d [.int P, .int n, .tuple []] (.ok (.dat (tT (idle n)))) := by
  have q := rTab.mk (d := d) (its := []) h h9 hn hn2 goods_nil (by rw [levs_nil]; omega)
  rw [tabs_nil] at q
  exact q
theorem rTab_one {d : Nat} {P : Int} {n : Nat} {i : Item} (h : 1 < P) (h9 : P ≤ 9999) (hn : 1 ≤ n) (hn2 : n ≤ 100) (hg : i.Good P n) (hl : i.lev ≤ d) : rTab d [.int P, .int n, .tuple [i.enc]] (.ok (.dat (tT (i.tab P n)))) := by
  have q := rTab.mk (d := d) (its := [i]) h h9 hn hn2 (goods_one hg) (levs_one hl)
  rw [tabs_one h hn hg] at q
  exact q
theorem rTab_again {d : Nat} {P : Int} {n : Nat} {m : Int} {its : List Item} (h : 1 < P) (h9 : P ≤ 9999) (hn : 1 ≤ n) (hn2 : n ≤ 100) (m0 : 0 ≤ m) (m1 : m ≤ 1000000000000000000000000000000) (hg : Goods P n its) (hl : 1 + levs its ≤ d) : rTab d [.int P, .int n, .tuple [.tuple [.str "again", .int m, tIt its]]] (.ok (.dat (tT (pw P n (tabs P n its) m.toNat)))) := by
  have q := rTab_one (d := d) h h9 hn hn2 (good_again.mpr ⟨m0, m1, hg⟩) (by rw [lev_again]; exact hl)
  rw [enc_again, tab_again] at q
  exact q
local macro_rules | `(tactic| wtm_at "nm") => `(tactic| first
  | ((with_reducible show Ev _ _ (.Name "P" _) _); exact nmF (by assumption) 0 (by rfl) rfl (by decide +kernel) (by decide +kernel) (by decide +kernel))
  | ((with_reducible show Ev _ _ (.Name "many" _) _); exact nmF (by assumption) 1 (by rfl) rfl (by decide +kernel) (by decide +kernel) (by decide +kernel))
  | ((with_reducible show Ev _ _ (.Name "items" _) _); exact nmF (by assumption) 2 (by rfl) rfl (by decide +kernel) (by decide +kernel) (by decide +kernel))
  | ((with_reducible show Ev _ _ (.Name "whole" _) _); exact nmF (by assumption) 3 (by rfl) rfl (by decide +kernel) (by decide +kernel) (by decide +kernel))
  | ((with_reducible show Ev _ _ (.Name "item" _) _); exact nmF (by assumption) 4 (by rfl) rfl (by decide +kernel) (by decide +kernel) (by decide +kernel))
  | ((with_reducible show Ev _ _ (.Name "one" _) _); exact nmF (by assumption) 5 (by rfl) rfl (by decide +kernel) (by decide +kernel) (by decide +kernel)))
local macro_rules | `(tactic| wtm_at "own") => `(tactic| first
  | ((with_reducible show EvS _ _ (.Name "P" _) _ _); exact ownF (by assumption) 0 (by rfl) rfl (by decide +kernel) (by decide +kernel) (by decide +kernel))
  | ((with_reducible show EvS _ _ (.Name "many" _) _ _); exact ownF (by assumption) 1 (by rfl) rfl (by decide +kernel) (by decide +kernel) (by decide +kernel))
  | ((with_reducible show EvS _ _ (.Name "items" _) _ _); exact ownF (by assumption) 2 (by rfl) rfl (by decide +kernel) (by decide +kernel) (by decide +kernel))
  | ((with_reducible show EvS _ _ (.Name "whole" _) _ _); exact ownF (by assumption) 3 (by rfl) rfl (by decide +kernel) (by decide +kernel) (by decide +kernel))
  | ((with_reducible show EvS _ _ (.Name "item" _) _ _); exact ownF (by assumption) 4 (by rfl) rfl (by decide +kernel) (by decide +kernel) (by decide +kernel))
  | ((with_reducible show EvS _ _ (.Name "one" _) _ _); exact ownF (by assumption) 5 (by rfl) rfl (by decide +kernel) (by decide +kernel) (by decide +kernel)))
local macro_rules | `(tactic| wtm_at "ownl") => `(tactic| first
  | ((with_reducible show EvL _ _ (.Name "P" _) _); exact ownlF (by assumption) 0 (by rfl) rfl (by decide +kernel) (by decide +kernel) (by decide +kernel))
  | ((with_reducible show EvL _ _ (.Name "many" _) _); exact ownlF (by assumption) 1 (by rfl) rfl (by decide +kernel) (by decide +kernel) (by decide +kernel))
  | ((with_reducible show EvL _ _ (.Name "items" _) _); exact ownlF (by assumption) 2 (by rfl) rfl (by decide +kernel) (by decide +kernel) (by decide +kernel))
  | ((with_reducible show EvL _ _ (.Name "whole" _) _); exact ownlF (by assumption) 3 (by rfl) rfl (by decide +kernel) (by decide +kernel) (by decide +kernel))
  | ((with_reducible show EvL _ _ (.Name "item" _) _); exact ownlF (by assumption) 4 (by rfl) rfl (by decide +kernel) (by decide +kernel) (by decide +kernel))
  | ((with_reducible show EvL _ _ (.Name "one" _) _); exact ownlF (by assumption) 5 (by rfl) rfl (by decide +kernel) (by decide +kernel) (by decide +kernel)))
local macro_rules | `(tactic| wtm_at "set") => `(tactic| first
  | ((with_reducible show S1 _ _ (.Assign [.Name "P" _] _ _) _); refine' setF ?st1 ?st2 0 ?st3 ?st4 ?ste ?st5; (case' st1 => assumption); (case' st2 => assumption); (case' st3 => rfl); (case' st4 => decide +kernel); (case' ste => wtm_at "ev"); (case' st5 => rfl))
  | ((with_reducible show S1 _ _ (.Assign [.Name "many" _] _ _) _); refine' setF ?st1 ?st2 1 ?st3 ?st4 ?ste ?st5; (case' st1 => assumption); (case' st2 => assumption); (case' st3 => rfl); (case' st4 => decide +kernel); (case' ste => wtm_at "ev"); (case' st5 => rfl))
  | ((with_reducible show S1 _ _ (.Assign [.Name "items" _] _ _) _); refine' setF ?st1 ?st2 2 ?st3 ?st4 ?ste ?st5; (case' st1 => assumption); (case' st2 => assumption); (case' st3 => rfl); (case' st4 => decide +kernel); (case' ste => wtm_at "ev"); (case' st5 => rfl))
  | ((with_reducible show S1 _ _ (.Assign [.Name "whole" _] _ _) _); refine' setF ?st1 ?st2 3 ?st3 ?st4 ?ste ?st5; (case' st1 => assumption); (case' st2 => assumption); (case' st3 => rfl); (case' st4 => decide +kernel); (case' ste => wtm_at "ev"); (case' st5 => rfl))
  | ((with_reducible show S1 _ _ (.Assign [.Name "item" _] _ _) _); refine' setF ?st1 ?st2 4 ?st3 ?st4 ?ste ?st5; (case' st1 => assumption); (case' st2 => assumption); (case' st3 => rfl); (case' st4 => decide +kernel); (case' ste => wtm_at "ev"); (case' st5 => rfl))
  | ((with_reducible show S1 _ _ (.Assign [.Name "one" _] _ _) _); refine' setF ?st1 ?st2 5 ?st3 ?st4 ?ste ?st5; (case' st1 => assumption); (case' st2 => assumption); (case' st3 => rfl); (case' st4 => decide +kernel); (case' ste => wtm_at "ev"); (case' st5 => rfl)))
local macro_rules | `(tactic| wtm_at "app") => `(tactic| first
  | ((with_reducible show S1 _ _ (.Expr (.Call (.Attribute (.Name "P" _) _ _) _ _ _) _) _); refine' appF ?ap1 0 ?ap2 ?ap3 ?ap4 ?ape ?aps ?ap5 ?ap6; (case' ap1 => assumption); (case' ap2 => rfl); (case' ap3 => rfl); (case' ap4 => decide +kernel); (case' ape => wtm_at "ev"); (case' aps => try (wtm_at "sz")); (case' ap5 => decide +kernel); (case' ap6 => decide +kernel))
  | ((with_reducible show S1 _ _ (.Expr (.Call (.Attribute (.Name "many" _) _ _) _ _ _) _) _); refine' appF ?ap1 1 ?ap2 ?ap3 ?ap4 ?ape ?aps ?ap5 ?ap6; (case' ap1 => assumption); (case' ap2 => rfl); (case' ap3 => rfl); (case' ap4 => decide +kernel); (case' ape => wtm_at "ev"); (case' aps => try (wtm_at "sz")); (case' ap5 => decide +kernel); (case' ap6 => decide +kernel))
  | ((with_reducible show S1 _ _ (.Expr (.Call (.Attribute (.Name "items" _) _ _) _ _ _) _) _); refine' appF ?ap1 2 ?ap2 ?ap3 ?ap4 ?ape ?aps ?ap5 ?ap6; (case' ap1 => assumption); (case' ap2 => rfl); (case' ap3 => rfl); (case' ap4 => decide +kernel); (case' ape => wtm_at "ev"); (case' aps => try (wtm_at "sz")); (case' ap5 => decide +kernel); (case' ap6 => decide +kernel))
  | ((with_reducible show S1 _ _ (.Expr (.Call (.Attribute (.Name "whole" _) _ _) _ _ _) _) _); refine' appF ?ap1 3 ?ap2 ?ap3 ?ap4 ?ape ?aps ?ap5 ?ap6; (case' ap1 => assumption); (case' ap2 => rfl); (case' ap3 => rfl); (case' ap4 => decide +kernel); (case' ape => wtm_at "ev"); (case' aps => try (wtm_at "sz")); (case' ap5 => decide +kernel); (case' ap6 => decide +kernel))
  | ((with_reducible show S1 _ _ (.Expr (.Call (.Attribute (.Name "item" _) _ _) _ _ _) _) _); refine' appF ?ap1 4 ?ap2 ?ap3 ?ap4 ?ape ?aps ?ap5 ?ap6; (case' ap1 => assumption); (case' ap2 => rfl); (case' ap3 => rfl); (case' ap4 => decide +kernel); (case' ape => wtm_at "ev"); (case' aps => try (wtm_at "sz")); (case' ap5 => decide +kernel); (case' ap6 => decide +kernel))
  | ((with_reducible show S1 _ _ (.Expr (.Call (.Attribute (.Name "one" _) _ _) _ _ _) _) _); refine' appF ?ap1 5 ?ap2 ?ap3 ?ap4 ?ape ?aps ?ap5 ?ap6; (case' ap1 => assumption); (case' ap2 => rfl); (case' ap3 => rfl); (case' ap4 => decide +kernel); (case' ape => wtm_at "ev"); (case' aps => try (wtm_at "sz")); (case' ap5 => decide +kernel); (case' ap6 => decide +kernel)))
local macro_rules | `(tactic| wtm_at "put") => `(tactic| first
  | ((with_reducible show S1 _ _ (.Assign [.Subscript (.Name "P" _) _ _] _ _) _); refine' putF ?pu1 0 ?pu2 ?pu3 ?pu4 ?pue ?pui ?pu5 ?pu6 ?pu7 ?pu8; (case' pu1 => assumption); (case' pu2 => rfl); (case' pu3 => rfl); (case' pu4 => decide +kernel); (case' pue => wtm_at "ev"); (case' pui => wtm_at "ev"); (case' pu5 => try (wtm_at "sd")); (case' pu6 => try (wtm_at "sd")); (case' pu7 => decide +kernel); (case' pu8 => decide +kernel))
  | ((with_reducible show S1 _ _ (.Assign [.Subscript (.Name "many" _) _ _] _ _) _); refine' putF ?pu1 1 ?pu2 ?pu3 ?pu4 ?pue ?pui ?pu5 ?pu6 ?pu7 ?pu8; (case' pu1 => assumption); (case' pu2 => rfl); (case' pu3 => rfl); (case' pu4 => decide +kernel); (case' pue => wtm_at "ev"); (case' pui => wtm_at "ev"); (case' pu5 => try (wtm_at "sd")); (case' pu6 => try (wtm_at "sd")); (case' pu7 => decide +kernel); (case' pu8 => decide +kernel))
  | ((with_reducible show S1 _ _ (.Assign [.Subscript (.Name "items" _) _ _] _ _) _); refine' putF ?pu1 2 ?pu2 ?pu3 ?pu4 ?pue ?pui ?pu5 ?pu6 ?pu7 ?pu8; (case' pu1 => assumption); (case' pu2 => rfl); (case' pu3 => rfl); (case' pu4 => decide +kernel); (case' pue => wtm_at "ev"); (case' pui => wtm_at "ev"); (case' pu5 => try (wtm_at "sd")); (case' pu6 => try (wtm_at "sd")); (case' pu7 => decide +kernel); (case' pu8 => decide +kernel))
  | ((with_reducible show S1 _ _ (.Assign [.Subscript (.Name "whole" _) _ _] _ _) _); refine' putF ?pu1 3 ?pu2 ?pu3 ?pu4 ?pue ?pui ?pu5 ?pu6 ?pu7 ?pu8; (case' pu1 => assumption); (case' pu2 => rfl); (case' pu3 => rfl); (case' pu4 => decide +kernel); (case' pue => wtm_at "ev"); (case' pui => wtm_at "ev"); (case' pu5 => try (wtm_at "sd")); (case' pu6 => try (wtm_at "sd")); (case' pu7 => decide +kernel); (case' pu8 => decide +kernel))
  | ((with_reducible show S1 _ _ (.Assign [.Subscript (.Name "item" _) _ _] _ _) _); refine' putF ?pu1 4 ?pu2 ?pu3 ?pu4 ?pue ?pui ?pu5 ?pu6 ?pu7 ?pu8; (case' pu1 => assumption); (case' pu2 => rfl); (case' pu3 => rfl); (case' pu4 => decide +kernel); (case' pue => wtm_at "ev"); (case' pui => wtm_at "ev"); (case' pu5 => try (wtm_at "sd")); (case' pu6 => try (wtm_at "sd")); (case' pu7 => decide +kernel); (case' pu8 => decide +kernel))
  | ((with_reducible show S1 _ _ (.Assign [.Subscript (.Name "one" _) _ _] _ _) _); refine' putF ?pu1 5 ?pu2 ?pu3 ?pu4 ?pue ?pui ?pu5 ?pu6 ?pu7 ?pu8; (case' pu1 => assumption); (case' pu2 => rfl); (case' pu3 => rfl); (case' pu4 => decide +kernel); (case' pue => wtm_at "ev"); (case' pui => wtm_at "ev"); (case' pu5 => try (wtm_at "sd")); (case' pu6 => try (wtm_at "sd")); (case' pu7 => decide +kernel); (case' pu8 => decide +kernel)))
local macro_rules | `(tactic| wtm_at "reto") => `(tactic| first
  | ((with_reducible show S1 _ _ (.Return (some (.Name "P" _)) _) _); exact retOF (by assumption) 0 (by rfl) rfl (by decide +kernel) (by decide +kernel) (by decide +kernel))
  | ((with_reducible show S1 _ _ (.Return (some (.Name "many" _)) _) _); exact retOF (by assumption) 1 (by rfl) rfl (by decide +kernel) (by decide +kernel) (by decide +kernel))
  | ((with_reducible show S1 _ _ (.Return (some (.Name "items" _)) _) _); exact retOF (by assumption) 2 (by rfl) rfl (by decide +kernel) (by decide +kernel) (by decide +kernel))
  | ((with_reducible show S1 _ _ (.Return (some (.Name "whole" _)) _) _); exact retOF (by assumption) 3 (by rfl) rfl (by decide +kernel) (by decide +kernel) (by decide +kernel))
  | ((with_reducible show S1 _ _ (.Return (some (.Name "item" _)) _) _); exact retOF (by assumption) 4 (by rfl) rfl (by decide +kernel) (by decide +kernel) (by decide +kernel))
  | ((with_reducible show S1 _ _ (.Return (some (.Name "one" _)) _) _); exact retOF (by assumption) 5 (by rfl) rfl (by decide +kernel) (by decide +kernel) (by decide +kernel)))
local macro_rules | `(tactic| wtm_at "tgt") => `(tactic| first
  | ((with_reducible show PG _ (.Name "P" _) _); exact tgF (by assumption) (by assumption) 0 (by rfl) (by decide +kernel))
  | ((with_reducible show PG _ (.Name "many" _) _); exact tgF (by assumption) (by assumption) 1 (by rfl) (by decide +kernel))
  | ((with_reducible show PG _ (.Name "items" _) _); exact tgF (by assumption) (by assumption) 2 (by rfl) (by decide +kernel))
  | ((with_reducible show PG _ (.Name "whole" _) _); exact tgF (by assumption) (by assumption) 3 (by rfl) (by decide +kernel))
  | ((with_reducible show PG _ (.Name "item" _) _); exact tgF (by assumption) (by assumption) 4 (by rfl) (by decide +kernel))
  | ((with_reducible show PG _ (.Name "one" _) _); exact tgF (by assumption) (by assumption) 5 (by rfl) (by decide +kernel)))
theorem rec_table_of {f : Addr} {fd : FuncData} (F : Fun K "table_of" "table_of" s_table_of f fd) (hm : mg "table_of" = some (.ref f)) (b : Binds K fd ["P", "many", "items"] []) (Gi : Fn P w K mg base 2 "idle" ["many"] rIdle) (Gs : Fn P w K mg base 3 "setting" ["many", "x", "form"] rSetting)
    (Gt : Fn P w K mg base 3 "then" ["P", "one", "other"] rThen) (Gr : Fn P w K mg base 5 "rounds" ["P", "table", "n"] rRounds) : ∀ d : Nat, Fn P w K mg base (6 + d) "table_of" ["P", "many", "items"] (rTab d)
  | d => by
    have ih : ∀ e, e < d → Fn P w K mg base (6 + e) "table_of" ["P", "many", "items"] (rTab e) := fun e he => rec_table_of F hm b Gi Gs Gt Gr e
    have ek : 6 + d = (5 + d) + 1 := by omega
    rw [ek]
    refine fnF F hm b sc_table_of (fun ds r h => by cases h; rfl) fun X hX hT ds r h => ?_
    cases h with
    | @mk p n its h h9 hn hn2 hg hl =>
      have p0 : 0 < p := by omega
      have j2 : 2 ≤ 5 + d := by omega
      have j3 : 3 ≤ 5 + d := by omega
      have j5 : 5 ≤ 5 + d := by omega
      refine' sm_cons ?s1 ?_
      case' s1 =>
        refine' setF hX hT 3 (by rfl) ?q1 ?q2 (by rfl)
        case' q1 => decide +kernel
        case' q2 =>
          refine' callF hX Gi j2 ?a2 ?a3 (rIdle.mk (n := n) hn2) ?a4
          case' a2 => decide +kernel
          case' a3 => wtm_at "args"
          case' a4 => decide +kernel
      refine' sm_cons ?s2 ?_
      case' s2 =>
        refine' forL hX 4 its Item.enc (fun i => [.dat (.int p), .dat (.int n), .dat (tIt its), .dat (tT (tabs p n (its.take i))), .un, .un]) ?i2 ?r2 ?g2 ?l2 (fun _ => rfl) (fun i hi => ?b2)
        case' i2 => wtm_at "iter"
        case' r2 => rfl
        case' g2 => wtm_at "tgt"
        case' l2 =>
          rw [List.take_zero, tabs_nil]
          wtm_at "le"
        rw [tabs_snoc h hn hg hi]
        have hgi := goods_get hg hi
        have hli : (its[i]).lev ≤ d := Nat.le_trans (lev_le_levs (List.getElem_mem hi)) hl
        have hT1 := tabs_tbl h hn (goods_take (k := i) hg)
        generalize tabs p n (its.take i) = whole at *
        generalize its[i] = it at *
        have hTi := tab_tbl h hn hgi
        refine' sm_cons (A1 := [.dat (.int p), .dat (.int n), .dat (tIt its), .dat (tT whole), .dat it.enc, .dat (tT (it.tab p n))]) ?s3 ?_
        case' s3 =>
          cases it with
          | set x f =>
            obtain ⟨x0, x1, fl, fo⟩ := good_set.mp hgi
            obtain ⟨m, rfl⟩ := Int.eq_ofNat_of_zero_le x0
            rw [enc_set, tab_set, Int.toNat_natCast]
            have mn : m < n := by omega
            refine' s1_if (v := true) ?c3 (fun _ => ?t3) fun h3 => nomatch h3
            case' c3 =>
              refine' et_eq ?c4 (u := true) ?c5
              case' c4 => wtm_at "test"
              case' c5 => decide
            case' t3 =>
              refine' sm_le (sm_one ?s4) ?l4
              case' s4 =>
                refine' setF hX hT 5 (by rfl) ?q3 ?q4 (by rfl)
                case' q3 => decide +kernel
                case' q4 =>
                  refine' callF hX Gs j3 ?a6 ?a7 (rSetting.mk (n := n) (x := m) (f := f) hn2 mn) ?a8
                  case' a6 => decide +kernel
                  case' a7 => wtm_at "args"
                  case' a8 => decide +kernel
              case' l4 => wtm_at "le"
          | again m its' =>
            obtain ⟨m0, m1, g1⟩ := good_again.mp hgi
            rw [lev_again] at hli
            have ht' := tabs_tbl h hn g1
            have G' := ih (d - 1) (by omega)
            have hl' : levs its' ≤ d - 1 := by omega
            have jd : 6 + (d - 1) ≤ 5 + d := by omega
            rw [enc_again, tab_again]
            refine' s1_if (v := false) ?c13 (fun h3 => nomatch h3) fun _ => ?f3
            case' c13 =>
              refine' et_eq ?c14 (u := false) ?c15
              case' c14 => wtm_at "test"
              case' c15 => decide
            case' f3 =>
              refine' sm_le (sm_one ?s14) ?l14
              case' s14 =>
                refine' setF hX hT 5 (by rfl) ?q13 ?q14 (by rfl)
                case' q13 => decide +kernel
                case' q14 =>
                  refine' callF hX Gr j5 ?gb1 (ea_cons ?gb2 (ea_cons ?gb3 (ea_cons ?gb4 ea_nil))) (roundsG h h9 hn hn2 ht' m0 m1) ?gb5
                  case' gb1 => decide +kernel
                  case' gb2 => wtm_at "ev"
                  case' gb3 =>
                    refine' callF hX G' jd ?d1 ?d2 (rTab.mk (n := n) (its := its') h h9 hn hn2 g1 hl') ?d3
                    case' d1 => decide +kernel
                    case' d2 => wtm_at "args"
                    case' d3 => decide +kernel
                  case' gb4 => wtm_at "ev"
                  case' gb5 => decide +kernel
              case' l14 => wtm_at "le"
        refine' sm_le (sm_one ?s5) ?l5
        case' s5 =>
          refine' setF hX hT 3 (by rfl) ?q5 ?q6 (by rfl)
          case' q5 => decide +kernel
          case' q6 =>
            refine' callF hX Gt j3 ?e1 ?e2 (rThen_of (n := n) p0 h9 hn2 hT1 hTi) ?e3
            case' e1 => decide +kernel
            case' e2 => wtm_at "args"
            case' e3 => decide +kernel
        case' l5 => wtm_at "le"
      rw [List.take_length]
      refine' sm_end (s1_retE ?e9 ?e10)
      case' e9 => wtm_at "ev"
      case e10 => rfl
theorem ok_table_of {f : Addr} {fd : FuncData} (F : Fun K "table_of" "table_of" s_table_of f fd) (hm : mg "table_of" = some (.ref f)) (b : Binds K fd ["P", "many", "items"] []) (Gi : Fn P w K mg base 2 "idle" ["many"] rIdle) (Gs : Fn P w K mg base 3 "setting" ["many", "x", "form"] rSetting)
    (Gt : Fn P w K mg base 3 "then" ["P", "one", "other"] rThen) (Gr : Fn P w K mg base 5 "rounds" ["P", "table", "n"] rRounds) : Fn P w K mg base 11 "table_of" ["P", "many", "items"] (rTab 5) := rec_table_of F hm b Gi Gs Gt Gr 5
inductive rAfter : List PyData → Res → Prop
  | mk {P : Int} {n : Nat} {its : List Item} {m : Int} {s : List Int} (h : 1 < P) (h9 : P ≤ 9999) (hn : 1 ≤ n) (hn2 : n ≤ 100) (hg : Goods P n its) (hl : levs its ≤ 5) (m0 : 0 ≤ m) (m1 : m ≤ 1000000000000000000000000000000) (hs : s.length = n) : rAfter [.int P, .int n, tIt its, .int m, tI s] (.ok (.dat (tI (turned P (pw P n (tabs P n its) m.toNat) s))))
end
end W

namespace W
/-! stands after so many rounds -/
section
variable {P : Int} {n : Nat} {t : List (List Int)} (hP : 1 < P) (hn : 1 ≤ n) (h : Tbl P n t)
include hP hn h
theorem go_len {s : List Int} (k : Nat) : (turned P (pw P n t k) s).length = n := by rw [turned_len, (pw_tbl hP hn h k).len]
theorem go_on {s : List Int} (k : Nat) : OnW P (turned P (pw P n t k) s) := turned_on (by omega)
theorem go_zero {s : List Int} (hs : s.length = n) (ho : OnW P s) : turned P (pw P n t 0) s = s := turned_idle hs ho
theorem go_add {s : List Int} (hs : s.length = n) (a b : Nat) : turned P (pw P n t (a + b)) s = turned P (pw P n t b) (turned P (pw P n t a) s) := by
  rw [← pw_add hP hn h]
  exact turned_then (by omega) hn (pw_tbl hP hn h a) (pw_tbl hP hn h b) hs
theorem go_one {s : List Int} : turned P (pw P n t 1) s = turned P t s := by rw [pw_one hP hn h]
end
end W

namespace W
open PySem PySem.Spec PyProof.Rows L2 LR
/-! the back of a number -/
/-- left, right, one, other -/
structure EuS where
  l : Int
  r : Int
  a : Int
  b : Int
def euS (P n : Int) : Nat → EuS
  | 0 => ⟨P, n % P, 0, 1⟩
  | i + 1 => let s := euS P n i; ⟨s.r, s.l - s.l / s.r * s.r, s.b, s.a - s.l / s.r * s.b⟩
theorem eu_ok {P n : Int} (hP : 0 < P) : ∀ i, (∀ j, j < i → 0 < (euS P n j).r) → 0 < (euS P n i).l ∧ 0 ≤ (euS P n i).r ∧ (euS P n i).r < (euS P n i).l ∧ (euS P n i).l ≤ P ∧ (euS P n i).r ≤ P - i ∧
    (∀ d, d ∣ (euS P n i).l → d ∣ (euS P n i).r → d ∣ P ∧ d ∣ n % P) ∧ P ∣ (euS P n i).l - (euS P n i).a * n ∧ P ∣ (euS P n i).r - (euS P n i).b * n
  | 0, _ => by
    show 0 < P ∧ 0 ≤ n % P ∧ n % P < P ∧ P ≤ P ∧ n % P ≤ P - 0 ∧ (∀ d, d ∣ P → d ∣ n % P → d ∣ P ∧ d ∣ n % P) ∧ P ∣ P - 0 * n ∧ P ∣ n % P - 1 * n
    have a := Int.emod_nonneg n (show P ≠ 0 by omega)
    have b := Int.emod_lt_of_pos n hP
    refine ⟨hP, a, b, Int.le_refl _, by omega, fun d h1 h2 => ⟨h1, h2⟩, by simp, ?_⟩
    rw [Int.one_mul]
    exact ⟨-(n / P), by have := Int.mul_ediv_add_emod n P; rw [Int.mul_neg]; omega⟩
  | i + 1, h => by
    obtain ⟨h1, h2, h3, h4, h5, h6, h7, h8⟩ := eu_ok hP i fun j hj => h j (by omega)
    have hr := h i (by omega)
    show 0 < (euS P n i).r ∧ 0 ≤ (euS P n i).l - (euS P n i).l / (euS P n i).r * (euS P n i).r ∧ (euS P n i).l - (euS P n i).l / (euS P n i).r * (euS P n i).r < (euS P n i).r ∧ (euS P n i).r ≤ P ∧ (euS P n i).l - (euS P n i).l / (euS P n i).r * (euS P n i).r ≤ P - ((i + 1 : Nat) : Int) ∧
      (∀ d, d ∣ (euS P n i).r → d ∣ (euS P n i).l - (euS P n i).l / (euS P n i).r * (euS P n i).r → d ∣ P ∧ d ∣ n % P) ∧ P ∣ (euS P n i).r - (euS P n i).b * n ∧ P ∣ ((euS P n i).l - (euS P n i).l / (euS P n i).r * (euS P n i).r) - ((euS P n i).a - (euS P n i).l / (euS P n i).r * (euS P n i).b) * n
    generalize euS P n i = s at *
    have e : s.l - s.l / s.r * s.r = s.l % s.r := by rw [Int.emod_def, Int.mul_comm]
    have a := Int.emod_nonneg s.l (show s.r ≠ 0 by omega)
    have b := Int.emod_lt_of_pos s.l hr
    refine ⟨hr, by omega, by omega, by omega, by omega, fun d d1 d2 => ?_, h8, ?_⟩
    · have : d ∣ s.l := by
        have z := Int.dvd_add d2 (Int.dvd_trans d1 (Int.dvd_mul_left (s.l / s.r) s.r))
        have e2 : s.l - s.l / s.r * s.r + s.l / s.r * s.r = s.l := by omega
        rwa [e2] at z
      exact h6 d this d1
    · have z := Int.dvd_sub h7 (Int.dvd_trans h8 (Int.dvd_mul_left (s.l / s.r) (s.r - s.b * n)))
      have e2 : s.l - s.a * n - s.l / s.r * (s.r - s.b * n) = s.l - s.l / s.r * s.r - (s.a - s.l / s.r * s.b) * n := by
        rw [Int.mul_sub, Int.sub_mul, Int.mul_assoc]
        omega
      rwa [e2] at z
/-- how many turns -/
theorem eu_stop {P n : Int} (hP : 0 < P) : ∃ k, (∀ i, i < k → decide ((euS P n i).r ≠ 0) = true) ∧ decide ((euS P n k).r ≠ 0) = false := by
  have key : ∃ m, decide ((euS P n m).r ≠ 0) = false := by
    refine Classical.byContradiction fun hn => ?_
    have hall : ∀ i, (∀ j, j < i → 0 < (euS P n j).r) ∧ (euS P n i).r ≠ 0 := fun i => by
      induction i with
      | zero => exact ⟨fun j hj => absurd hj (Nat.not_lt_zero _), fun z => hn ⟨0, by simp [z]⟩⟩
      | succ i ih =>
        refine ⟨fun j hj => ?_, fun z => hn ⟨i + 1, by simp [z]⟩⟩
        by_cases hji : j < i
        · exact ih.1 j hji
        · have : j = i := by omega
          subst this
          have := (eu_ok hP j ih.1).2.1
          have := ih.2
          omega
    have q := eu_ok hP (P.toNat + 1) (hall _).1
    omega
  obtain ⟨m, hm⟩ := key
  obtain ⟨k, _, a, b⟩ := first_not (fun i => decide ((euS P n i).r ≠ 0)) m hm
  exact ⟨k, a, b⟩
def backN (P n : Int) : Int := ((List.range P.toNat).find? fun x : Nat => decide ((x : Int) * n % P = 1)).getD 0
theorem back_uniq {P n x y : Int} (hP : 1 < P) (x0 : 0 ≤ x) (x1 : x < P) (y0 : 0 ≤ y) (y1 : y < P) (hx : x * n % P = 1) (hy : y * n % P = 1) : x = y := by
  have h1 : Em P (x * (y * n)) x := by
    have z : Em P (y * n) 1 := by show _ % P = 1 % P; rw [hy, Int.emod_eq_of_lt (by omega) hP]
    exact (Em.refl.mul z).trans (Em.of_eq (Int.mul_one _))
  have h2 : Em P (y * (x * n)) y := by
    have z : Em P (x * n) 1 := by show _ % P = 1 % P; rw [hx, Int.emod_eq_of_lt (by omega) hP]
    exact (Em.refl.mul z).trans (Em.of_eq (Int.mul_one _))
  have e : x * (y * n) = y * (x * n) := by rw [← Int.mul_assoc, ← Int.mul_assoc, Int.mul_comm x y]
  exact (h1.symm.trans ((Em.of_eq e).trans h2)).eq x0 x1 y0 y1
theorem backN_eq {P n x : Int} (hP : 1 < P) (x0 : 0 ≤ x) (x1 : x < P) (hx : x * n % P = 1) : backN P n = x := by
  unfold backN
  rcases find_first (fun z : Nat => decide ((z : Int) * n % P = 1)) (List.range P.toNat) with ⟨_, b⟩ | ⟨k, hk, _, b, c⟩
  · have z := b x.toNat (by simp; omega)
    rw [List.getElem_range, Int.toNat_of_nonneg x0] at z
    exact absurd hx (of_decide_eq_false z)
  · rw [c]
    rw [List.getElem_range] at b ⊢
    have hk2 : k < P.toNat := by simpa using hk
    show (k : Int) = x
    exact back_uniq hP (by omega) (by omega) x0 x1 (of_decide_eq_true b) hx
theorem eu_end {p n : Int} {k : Nat} (hp : Prm p) (hn : n % p ≠ 0) (h1 : ∀ i, i < k → decide ((euS p n i).r ≠ 0) = true) (h2 : decide ((euS p n k).r ≠ 0) = false) : 0 ≤ (euS p n k).a % p ∧ (euS p n k).a % p < p ∧ (euS p n k).a % p * n % p = 1 := by
  have p3 := hp.lo
  have p0 : 0 < p := by omega
  have pos : ∀ j, j < k → 0 < (euS p n j).r := fun j => by
    induction j using Nat.strongRecOn with
    | _ j ih =>
      intro hj
      have z := of_decide_eq_true (h1 j hj)
      have := (eu_ok p0 j fun i hi => ih i hi (by omega)).2.1
      omega
  obtain ⟨a, _, _, d, _, f, g, _⟩ := eu_ok p0 k pos
  have r0 : (euS p n k).r = 0 := by simpa using h2
  obtain ⟨d1, d2⟩ := f _ (Int.dvd_refl _) (by rw [r0]; exact Int.dvd_zero _)
  have l1 : (euS p n k).l = 1 := by
    refine Classical.byContradiction fun hne => ?_
    by_cases hl : (euS p n k).l = p
    · rw [hl] at d2
      have := Int.emod_nonneg n (show p ≠ 0 by omega)
      have := Int.emod_lt_of_pos n p0
      obtain ⟨q, hq⟩ := d2
      have q1 : q = 0 := by
        rcases Int.lt_or_le q 1 with z | z
        · rcases Int.lt_or_le q 0 with y | y
          · have : p * q ≤ p * (-1) := Int.mul_le_mul_of_nonneg_left (by omega) (by omega)
            omega
          · omega
        · have : p * 1 ≤ p * q := Int.mul_le_mul_of_nonneg_left z (by omega)
          omega
      rw [q1] at hq
      omega
    · exact hp.no _ (by omega) (by omega) (Int.emod_eq_zero_of_dvd d1)
  rw [l1] at g
  refine ⟨Int.emod_nonneg _ (by omega), Int.emod_lt_of_pos _ p0, ?_⟩
  have e1 : Em p ((euS p n k).a % p * n) ((euS p n k).a * n) := Em.mod.mul Em.refl
  have e2 : Em p ((euS p n k).a * n) 1 := by
    obtain ⟨q, hq⟩ := g
    show _ % p = _ % p
    have e : (euS p n k).a * n = 1 + p * (-q) := by rw [Int.mul_neg]; omega
    rw [e, Int.add_mul_emod_self_left]
  have e3 : (euS p n k).a % p * n % p = 1 % p := e1.trans e2
  rw [e3, Int.emod_eq_of_lt (by omega) (by omega)]
theorem back_ok {p n : Int} (hp : Prm p) (hn : n % p ≠ 0) : 0 ≤ backN p n ∧ backN p n < p ∧ backN p n * n % p = 1 := by
  have p3 := hp.lo
  obtain ⟨k, a, b⟩ := eu_stop (P := p) (n := n) (by omega)
  obtain ⟨c, d, e⟩ := eu_end hp hn a b
  rw [backN_eq (by omega) c d e]
  exact ⟨c, d, e⟩
section
variable {P : Program} {w : World} {K : PySem.W.Frag} {mg : Str → Option Value} {base : Heap}
inductive rBack : List PyData → Res → Prop
  | mk {p n : Int} (hp : Prm p) (hn : n % p ≠ 0) : rBack [.int p, .int n] (.ok (.dat (.int (backN p n))))
  | no {p n : Int} (hp : Prm p) (hn : n % p = 0) : rBack [.int p, .int n] (.ex "NoNumber")
end
end W

namespace W
/-! rows of numbers -/
def lead (row : List Int) : Nat := row.findIdx fun x => decide (x ≠ 0)
def lessV (P : Int) (row other : List Int) (c : Int) : List Int := (row.zip other).map fun z => (z.1 - c * z.2) % P
def restBy (P : Int) (F : List (List Int)) (row : List Int) : List Int := F.foldl (fun r one => lessV P r one (r.getD (lead one) 0)) row
def newRow (P : Int) (r : List Int) : List Int := r.map fun x => (backN P (r.getD (lead r) 0) * x) % P
def addRow (P : Int) (F : List (List Int)) (r : List Int) : List (List Int) :=
  ((F.map fun one => lessV P one (newRow P r) (one.getD (lead r) 0)) ++ [newRow P r]).mergeSort fun a b => decide ((lead a : Int) ≤ (lead b : Int))
def withRow (P : Int) (F : List (List Int)) (row : List Int) : List (List Int) := if lead (restBy P F row) = (restBy P F row).length then F else addRow P F (restBy P F row)
def stepsForm (P : Int) (rows : List (List Int)) : List (List Int) := rows.foldl (withRow P) []
theorem lead_cases (row : List Int) : ((∀ i, i < row.length → row.getD i 0 = 0) ∧ lead row = row.length) ∨ (lead row < row.length ∧ (∀ i, i < lead row → row.getD i 0 = 0) ∧ row.getD (lead row) 0 ≠ 0) := by
  by_cases h : lead row < row.length
  · refine .inr ⟨h, fun i hi => ?_, ?_⟩
    · have := List.not_of_lt_findIdx (p := fun x : Int => decide (x ≠ 0)) (xs := row) hi
      rw [List.getD_eq_getElem?_getD, List.getElem?_eq_getElem (by omega)]
      simpa using this
    · have := List.findIdx_getElem (p := fun x : Int => decide (x ≠ 0)) (xs := row) (w := h)
      rw [List.getD_eq_getElem?_getD, List.getElem?_eq_getElem h]
      exact of_decide_eq_true this
  · have h2 : lead row ≤ row.length := List.findIdx_le_length
    have e : lead row = row.length := by omega
    refine .inl ⟨fun i hi => ?_, e⟩
    have := List.not_of_lt_findIdx (p := fun x : Int => decide (x ≠ 0)) (xs := row) (i := i) (by show i < lead row; omega)
    rw [List.getD_eq_getElem?_getD, List.getElem?_eq_getElem hi]
    simpa using this
theorem lead_le (row : List Int) : lead row ≤ row.length := List.findIdx_le_length
theorem lessV_len {P : Int} {r o : List Int} {c : Int} (h : r.length = o.length) : (lessV P r o c).length = r.length := by simp [lessV, h]
theorem lessV_get {P : Int} {r o : List Int} {c : Int} (h : r.length = o.length) {j : Nat} (hj : j < r.length) : (lessV P r o c).getD j 0 = (r.getD j 0 - c * o.getD j 0) % P := by
  unfold lessV
  rw [List.getD_eq_getElem?_getD, List.getD_eq_getElem?_getD, List.getD_eq_getElem?_getD, List.getElem?_map, List.getElem?_eq_getElem (by simp; omega), List.getElem?_eq_getElem hj, List.getElem?_eq_getElem (by omega), List.getElem_zip]
  rfl
theorem lessV_on {P : Int} (p0 : 0 < P) {r o : List Int} {c : Int} : OnW P (lessV P r o c) := fun y hy => by
  unfold lessV at hy
  obtain ⟨z, _, rfl⟩ := List.mem_map.mp hy
  exact ⟨Int.emod_nonneg _ (by omega), Int.emod_lt_of_pos _ p0⟩
/-- rows of a width on the wheel -/
def RowsOn (P : Int) (wd : Nat) (F : List (List Int)) : Prop := ∀ r ∈ F, r.length = wd ∧ OnW P r
theorem rows_nil {P : Int} {wd : Nat} : RowsOn P wd [] := fun _ h => nomatch h
theorem rows_append {P : Int} {wd : Nat} {F G : List (List Int)} (h : RowsOn P wd F) (h2 : RowsOn P wd G) : RowsOn P wd (F ++ G) := fun r hr => by
  rcases List.mem_append.mp hr with z | z
  · exact h r z
  · exact h2 r z
theorem rows_one {P : Int} {wd : Nat} {r : List Int} (h : r.length = wd) (h2 : OnW P r) : RowsOn P wd [r] := fun q hq => by rw [List.mem_singleton.mp hq]; exact ⟨h, h2⟩
section
variable {P : Int} {wd : Nat} (p0 : 0 < P)
include p0
theorem rest_on : ∀ {F : List (List Int)} {row : List Int}, RowsOn P wd F → row.length = wd → OnW P row → (restBy P F row).length = wd ∧ OnW P (restBy P F row)
  | [], row, _, h, h2 => ⟨h, h2⟩
  | one :: F, row, hF, h, h2 => by
    show (restBy P F (lessV P row one (row.getD (lead one) 0))).length = wd ∧ OnW P (restBy P F (lessV P row one (row.getD (lead one) 0)))
    have h1 := (hF one List.mem_cons_self).1
    exact rest_on (fun r hr => hF r (List.mem_cons_of_mem _ hr)) (by rw [lessV_len (by omega)]; exact h) (lessV_on p0)
theorem newRow_on {r : List Int} : (newRow P r).length = r.length ∧ OnW P (newRow P r) := by
  refine ⟨by simp [newRow], fun y hy => ?_⟩
  obtain ⟨z, _, rfl⟩ := List.mem_map.mp hy
  exact ⟨Int.emod_nonneg _ (by omega), Int.emod_lt_of_pos _ p0⟩
theorem addRow_on {F : List (List Int)} {r : List Int} (hF : RowsOn P wd F) (h : r.length = wd) : RowsOn P wd (addRow P F r) := by
  have hn := newRow_on p0 (r := r)
  intro q hq
  rw [addRow, List.mem_mergeSort] at hq
  rcases List.mem_append.mp hq with z | z
  · obtain ⟨one, h1, rfl⟩ := List.mem_map.mp z
    obtain ⟨a, b⟩ := hF one h1
    exact ⟨by rw [lessV_len (by omega)]; exact a, lessV_on p0⟩
  · rw [List.mem_singleton.mp z]
    exact ⟨by omega, hn.2⟩
theorem withRow_on {F : List (List Int)} {row : List Int} (hF : RowsOn P wd F) (h : row.length = wd) (h2 : OnW P row) : RowsOn P wd (withRow P F row) := by
  unfold withRow
  split
  · exact hF
  · exact addRow_on p0 hF (rest_on p0 hF h h2).1
end
theorem withRow_len {P : Int} {F : List (List Int)} {row : List Int} : (withRow P F row).length ≤ F.length + 1 := by
  unfold withRow
  split
  · omega
  · unfold addRow
    rw [List.length_mergeSort, List.length_append, List.length_map, List.length_singleton]
    omega
theorem steps_snoc {P : Int} {rows : List (List Int)} {k : Nat} (hk : k < rows.length) : stepsForm P (rows.take (k + 1)) = withRow P (stepsForm P (rows.take k)) rows[k] := by
  unfold stepsForm
  rw [List.take_add_one, List.getElem?_eq_getElem hk, List.foldl_append]
  rfl
theorem steps_all {P : Int} (p0 : 0 < P) {wd : Nat} {rows : List (List Int)} (h : RowsOn P wd rows) : ∀ k, k ≤ rows.length → RowsOn P wd (stepsForm P (rows.take k)) ∧ (stepsForm P (rows.take k)).length ≤ k
  | 0, _ => ⟨by rw [List.take_zero]; exact rows_nil, by rw [List.take_zero]; exact Nat.le_refl _⟩
  | k + 1, hk => by
    obtain ⟨a, b⟩ := steps_all p0 h k (by omega)
    rw [steps_snoc (by omega)]
    obtain ⟨c, d⟩ := h _ (List.getElem_mem (show k < rows.length by omega))
    exact ⟨withRow_on p0 a c d, Nat.le_trans withRow_len (by omega)⟩
end W

namespace W
open PySem PySem.Spec PyProof.Rows L2 LR
abbrev lT (F : List (List Int)) : PyData := .list (F.map tI)
def unI : PyData → Int
  | .int i => i
  | _ => 0
def unT : PyData → List Int
  | .tuple xs => xs.map unI
  | _ => []
theorem unT_t (r : List Int) : unT (tI r) = r := by
  show (r.map PyData.int).map unI = r
  rw [List.map_map]
  exact List.map_id r
section
variable {P : Program} {w : World} {K : PySem.W.Frag} {mg : Str → Option Value} {base : Heap}
inductive rLead : List PyData → Res → Prop
  | mk {r : List Int} (h : r.length ≤ 1000) : rLead [tI r] (.ok (.dat (.int (lead r))))
inductive rLess : List PyData → Res → Prop
  | mk {p c : Int} {r o : List Int} (h0 : 0 < p) (hl : r.length = o.length) (h : r.length ≤ 1000) (hc : -100000 ≤ c) (hc2 : c ≤ 100000) : rLess [.int p, tI r, tI o, .int c] (.ok (.dat (tI (lessV p r o c))))
inductive rRest : List PyData → Res → Prop
  | mk {p : Int} {wd : Nat} {G : List (List Int)} {r : List Int} (h0 : 0 < p) (hG : RowsOn p wd G) (hl : r.length = wd) (ho : OnW p r) (h : wd ≤ 1000) (h9 : p ≤ 9999) (hld : ∀ q ∈ G, lead q < wd) (hz : G.length ≤ 1000) : rRest [.int p, lT G, tI r] (.ok (.dat (tI (restBy p G r))))
local macro_rules | `(tactic| wtm_at "R") => `(tactic| first
  | ((with_reducible apply rLead.mk) <;> first | (with_reducible assumption) | omega)
  | (constructor; all_goals try (wtm_at "sd")))
inductive rWith : List PyData → Res → Prop
  | same {p : Int} {wd : Nat} {G : List (List Int)} {r : List Int} (hp : Prm p) (hG : RowsOn p wd G) (hl : r.length = wd) (ho : OnW p r) (h : wd ≤ 1000) (hld : ∀ q ∈ G, lead q < wd) (hz : G.length ≤ 900) (hs : lead (restBy p G r) = wd) : rWith [.int p, lT G, tI r] (.ok (.dat (lT G)))
  | new {p : Int} {wd : Nat} {G : List (List Int)} {r : List Int} (hp : Prm p) (hG : RowsOn p wd G) (hl : r.length = wd) (ho : OnW p r) (h : wd ≤ 1000) (hld : ∀ q ∈ G, lead q < wd) (hz : G.length ≤ 900) (hs : lead (restBy p G r) ≠ wd) : rWith [.int p, lT G, tI r] (.ok (.own (.lst ((addRow p G (restBy p G r)).map tI))))
local macro_rules | `(tactic| wtm_at "R") => `(tactic| first
  | ((with_reducible apply rLead.mk) <;> first | (with_reducible assumption) | omega)
  | (constructor; all_goals try (wtm_at "sd")))
end
end W

namespace W
/-! spans of rows, steps forms -/
theorem em_def (x P : Int) : ∃ k, x % P = x + P * k := ⟨-(x / P), by rw [Int.emod_def]; grind⟩
theorem exEm {p a b : Int} (h : Em p a b) : ∃ k, a = b + p * k := by
  have h2 : (a - b) % p = 0 := Int.emod_eq_emod_iff_emod_sub_eq_zero.mp h
  obtain ⟨k, hk⟩ := Int.dvd_of_emod_eq_zero h2
  exact ⟨k, by omega⟩
theorem emEx {p a b : Int} (h : ∃ k, a = b + p * k) : Em p a b := by
  obtain ⟨k, rfl⟩ := h
  show _ % p = _ % p
  rw [Int.add_mul_emod_self_left]
theorem on_get {P : Int} {v : List Int} (h : OnW P v) {j : Nat} (hj : j < v.length) : 0 ≤ v.getD j 0 ∧ v.getD j 0 < P := h _ (getD_mem hj)
theorem emod_on {P x : Int} (h : 0 ≤ x ∧ x < P) : x % P = x := Int.emod_eq_of_lt h.1 h.2
theorem rep_get {wd j : Nat} : (List.replicate wd (0 : Int)).getD j 0 = 0 := by
  rw [List.getD_eq_getElem?_getD, List.getElem?_replicate]
  split <;> rfl
abbrev zeroV (wd : Nat) : List Int := List.replicate wd 0
section
variable {P : Int} {wd : Nat}
/-- a row of the width on the wheel -/
abbrev RowOn (P : Int) (wd : Nat) (v : List Int) : Prop := v.length = wd ∧ OnW P v
theorem lead_eq {r : List Int} {a : Nat} (h : a < r.length) (h1 : ∀ i, i < a → r.getD i 0 = 0) (h2 : r.getD a 0 ≠ 0) : lead r = a := by
  rcases lead_cases r with ⟨z, e⟩ | ⟨x, y, z⟩
  · exact absurd (z a h) h2
  · rcases Nat.lt_trichotomy (lead r) a with q | q | q
    · exact absurd (h1 _ q) z
    · exact q
    · exact absurd (y _ q) h2
theorem lead_lt {r : List Int} (h : lead r < r.length) : (∀ i, i < lead r → r.getD i 0 = 0) ∧ r.getD (lead r) 0 ≠ 0 := by
  rcases lead_cases r with ⟨z, e⟩ | ⟨x, y, z⟩
  · omega
  · exact ⟨y, z⟩
theorem lead_zero {r : List Int} (h : lead r = r.length) : r = zeroV r.length := by
  rcases lead_cases r with ⟨z, e⟩ | ⟨x, y, z⟩
  · exact ext_getD 0 (by simp) fun i hi => by rw [z i hi, rep_get]
  · omega
theorem zero_lead : lead (zeroV wd) = wd := by
  rcases lead_cases (zeroV wd) with ⟨z, e⟩ | ⟨x, y, z⟩
  · simpa using e
  · exact absurd rep_get z
variable (p0 : 1 < P)
include p0
theorem zero_on : RowOn P wd (zeroV wd) := ⟨by simp, fun y hy => by rw [(List.mem_replicate.mp hy).2]; omega⟩
theorem less_on {v r : List Int} {c : Int} (hv : v.length = wd) (hr : r.length = wd) : RowOn P wd (lessV P v r c) := ⟨by rw [lessV_len (by omega)]; exact hv, lessV_on (by omega)⟩
/-- two rows of like numbers -/
theorem vext {v u : List Int} (hv : RowOn P wd v) (hu : RowOn P wd u) (h : ∀ j, j < wd → Em P (v.getD j 0) (u.getD j 0)) : v = u :=
  ext_getD 0 (by rw [hv.1, hu.1]) fun j hj => by
    rw [hv.1] at hj
    have a := on_get hv.2 (j := j) (by rw [hv.1]; exact hj)
    have b := on_get hu.2 (j := j) (by rw [hu.1]; exact hj)
    exact (h j hj).eq a.1 a.2 b.1 b.2
omit p0 in
theorem less_em {v r : List Int} {c : Int} {j : Nat} (hv : v.length = wd) (hr : r.length = wd) (hj : j < wd) : Em P ((lessV P v r c).getD j 0) (v.getD j 0 - c * r.getD j 0) := by
  rw [lessV_get (by omega) (by omega)]
  exact Em.mod
theorem less_zero {v : List Int} {c : Int} (hv : RowOn P wd v) : lessV P v (zeroV wd) c = v := vext p0 (less_on p0 hv.1 (by simp)) hv fun j hj => by
  refine (less_em hv.1 (by simp) hj).trans (Em.of_eq ?_)
  rw [rep_get]; omega
theorem less_none {v q : List Int} (hv : RowOn P wd v) (hq : q.length = wd) : lessV P v q 0 = v := vext p0 (less_on p0 hv.1 hq) hv fun j hj => by
  refine (less_em hv.1 hq hj).trans (Em.of_eq ?_)
  omega
theorem less_self {r : List Int} (hr : RowOn P wd r) : lessV P r r 1 = zeroV wd := vext p0 (less_on p0 hr.1 hr.1) (zero_on p0) fun j hj => by
  refine (less_em hr.1 hr.1 hj).trans (Em.of_eq ?_)
  rw [rep_get]; omega
theorem less_neg {r : List Int} (hr : RowOn P wd r) : lessV P (zeroV wd) r (-1) = r := vext p0 (less_on p0 (by simp) hr.1) hr fun j hj => by
  refine (less_em (by simp) hr.1 hj).trans (Em.of_eq ?_)
  rw [rep_get]; omega
theorem less_back {v q : List Int} {c : Int} (hv : RowOn P wd v) (hq : q.length = wd) : lessV P (lessV P v q c) q (-c) = v := vext p0 (less_on p0 (less_on p0 hv.1 hq).1 hq) hv fun j hj => by
  refine (less_em (less_on p0 hv.1 hq).1 hq hj).trans (((less_em hv.1 hq hj).sub Em.refl).trans (Em.of_eq ?_))
  grind
theorem less_less {v u r : List Int} {c d : Int} (hv : v.length = wd) (hu : u.length = wd) (hr : r.length = wd) : lessV P v (lessV P u r d) c = lessV P (lessV P v u c) r (-(c * d)) :=
  vext p0 (less_on p0 hv (less_on p0 hu hr).1) (less_on p0 (less_on p0 hv hu).1 hr) fun j hj => by
    refine (less_em hv (less_on p0 hu hr).1 hj).trans ((Em.refl.sub (Em.refl.mul (less_em hu hr hj))).trans ?_)
    refine Em.trans (Em.of_eq ?_) (((less_em hv hu hj).sub Em.refl).symm.trans (less_em (less_on p0 hv hu).1 hr hj).symm)
    grind
theorem less_lin {v r o : List Int} {c : Int} {l : Nat} (hv : v.length = wd) (hr : r.length = wd) (ho : o.length = wd) (hl : l < wd) :
    lessV P (lessV P v r c) o ((lessV P v r c).getD l 0) = lessV P (lessV P v o (v.getD l 0)) (lessV P r o (r.getD l 0)) c :=
  vext p0 (less_on p0 (less_on p0 hv hr).1 ho) (less_on p0 (less_on p0 hv ho).1 (less_on p0 hr ho).1) fun j hj => by
    refine (less_em (less_on p0 hv hr).1 ho hj).trans (((less_em hv hr hj).sub ((less_em hv hr hl).mul Em.refl)).trans ?_)
    refine Em.trans (Em.of_eq ?_) (((less_em hv ho hj).sub (Em.refl.mul (less_em hr ho hj))).symm.trans (less_em (less_on p0 hv ho).1 (less_on p0 hr ho).1 hj).symm)
    grind
omit p0 in
/-- the rows that come of some -/
inductive Sp (P : Int) (wd : Nat) (S : List Int → Prop) : List Int → Prop
  | zero : Sp P wd S (zeroV wd)
  | step {v r : List Int} {c : Int} (h : Sp P wd S v) (hr : S r) : Sp P wd S (lessV P v r c)
variable {S S' : List Int → Prop}
theorem Sp.on (hS : ∀ r, S r → r.length = wd) {v : List Int} (h : Sp P wd S v) : RowOn P wd v := by
  induction h with
  | zero => exact zero_on p0
  | step h hr ih => exact less_on p0 ih.1 (hS _ hr)
theorem Sp.less (hS : ∀ r, S r → r.length = wd) {v u : List Int} {c : Int} (hv : Sp P wd S v) (hu : Sp P wd S u) : Sp P wd S (lessV P v u c) := by
  induction hu generalizing c with
  | zero => rw [less_zero p0 (hv.on p0 hS)]; exact hv
  | @step u r d h hr ih =>
    rw [less_less p0 (hv.on p0 hS).1 (h.on p0 hS).1 (hS _ hr)]
    exact .step ih hr
theorem Sp.mem {r : List Int} (h : S r) (hr : RowOn P wd r) : Sp P wd S r := by
  rw [← less_neg p0 hr]
  exact .step .zero h
theorem Sp.bind (hS : ∀ r, S r → r.length = wd) (hS' : ∀ r, S' r → r.length = wd) (h : ∀ r, S r → Sp P wd S' r) {v : List Int} (hv : Sp P wd S v) : Sp P wd S' v := by
  induction hv with
  | zero => exact .zero
  | step a b ih => exact ih.less p0 hS' (h _ b)
omit p0 in
theorem Sp.mono (h : ∀ r, S r → S' r) {v : List Int} (hv : Sp P wd S v) : Sp P wd S' v := by
  induction hv with
  | zero => exact .zero
  | step a b ih => exact .step ih (h _ b)
/-! the rest by rows -/
omit p0 in
theorem rest_cons {one row : List Int} {F : List (List Int)} : restBy P (one :: F) row = restBy P F (lessV P row one (row.getD (lead one) 0)) := rfl
theorem rest_lin : ∀ {F : List (List Int)}, RowsOn P wd F → (∀ q ∈ F, lead q < wd) → ∀ {v r : List Int} {c : Int}, v.length = wd → r.length = wd → (restBy P F (lessV P v r c)) = lessV P (restBy P F v) (restBy P F r) c
  | [], _, _, _, _, _, _, _ => rfl
  | one :: F, hF, hl, v, r, c, hv, hr => by
    have h1 := (hF one List.mem_cons_self).1
    rw [rest_cons, rest_cons, rest_cons, less_lin p0 hv hr h1 (hl one List.mem_cons_self)]
    exact rest_lin (fun q hq => hF q (List.mem_cons_of_mem _ hq)) (fun q hq => hl q (List.mem_cons_of_mem _ hq)) (less_on p0 hv h1).1 (less_on p0 hr h1).1
theorem rest_zero : ∀ {F : List (List Int)}, RowsOn P wd F → restBy P F (zeroV wd) = zeroV wd
  | [], _ => rfl
  | one :: F, hF => by
    rw [rest_cons, rep_get, less_none p0 (zero_on p0) (hF one List.mem_cons_self).1]
    exact rest_zero fun q hq => hF q (List.mem_cons_of_mem _ hq)
theorem rest_sp (hS : ∀ r, S r → r.length = wd) : ∀ {F : List (List Int)}, (∀ q ∈ F, Sp P wd S q) → ∀ {v : List Int}, Sp P wd S v → Sp P wd S (restBy P F v)
  | [], _, _, h => h
  | one :: F, hF, v, h => by
    rw [rest_cons]
    exact rest_sp hS (fun q hq => hF q (List.mem_cons_of_mem _ hq)) (h.less p0 hS (hF one List.mem_cons_self))
theorem rest_ps (hS : ∀ r, S r → r.length = wd) : ∀ {F : List (List Int)}, (∀ q ∈ F, Sp P wd S q) → ∀ {v : List Int}, RowOn P wd v → Sp P wd S (restBy P F v) → Sp P wd S v
  | [], _, _, _, h => h
  | one :: F, hF, v, hv, h => by
    rw [rest_cons] at h
    have h1 := hF one List.mem_cons_self
    have q := rest_ps hS (fun q hq => hF q (List.mem_cons_of_mem _ hq)) (less_on p0 hv.1 (h1.on p0 hS).1) h
    rw [← less_back p0 (c := v.getD (lead one) 0) hv (h1.on p0 hS).1]
    exact q.less p0 hS h1
/-- a place at which the rows have 0 -/
theorem rest_keep {j : Nat} (hj : j < wd) : ∀ {F : List (List Int)}, RowsOn P wd F → ∀ {v : List Int}, RowOn P wd v → (∀ q ∈ F, q.getD j 0 = 0) → (restBy P F v).getD j 0 = v.getD j 0
  | [], _, _, _, _ => rfl
  | one :: F, hF, v, hv, h => by
    have h1 := (hF one List.mem_cons_self).1
    rw [rest_cons, rest_keep hj (fun q hq => hF q (List.mem_cons_of_mem _ hq)) (less_on p0 hv.1 h1) fun q hq => h q (List.mem_cons_of_mem _ hq)]
    rw [lessV_get (by rw [h1, hv.1]) (by rw [hv.1]; exact hj), h one List.mem_cons_self, Int.mul_zero, Int.sub_zero]
    exact emod_on (on_get hv.2 (by rw [hv.1]; exact hj))
omit p0 in
structure Steps (P : Int) (wd : Nat) (F : List (List Int)) : Prop where
  on : RowsOn P wd F
  lt : ∀ r ∈ F, lead r < wd
  one : ∀ r ∈ F, r.getD (lead r) 0 = 1
  clr : ∀ r ∈ F, ∀ q ∈ F, lead q ≠ lead r → r.getD (lead q) 0 = 0
  inc : F.Pairwise fun a b => lead a < lead b
omit p0 in
theorem Steps.tail {one : List Int} {F : List (List Int)} (h : Steps P wd (one :: F)) : Steps P wd F :=
  ⟨fun q hq => h.on q (List.mem_cons_of_mem _ hq), fun q hq => h.lt q (List.mem_cons_of_mem _ hq), fun q hq => h.one q (List.mem_cons_of_mem _ hq), fun r hr q hq => h.clr r (List.mem_cons_of_mem _ hr) q (List.mem_cons_of_mem _ hq), (List.pairwise_cons.mp h.inc).2⟩
omit p0 in
theorem Steps.ne {one : List Int} {F : List (List Int)} (h : Steps P wd (one :: F)) : ∀ q ∈ F, lead one < lead q := (List.pairwise_cons.mp h.inc).1
omit p0 in
theorem Steps.hS {F : List (List Int)} (h : Steps P wd F) : ∀ r, r ∈ F → r.length = wd := fun r hr => (h.on r hr).1
/-- the rest has 0 at the leads -/
theorem rest_leads : ∀ {F : List (List Int)}, Steps P wd F → ∀ {v : List Int}, RowOn P wd v → ∀ q ∈ F, (restBy P F v).getD (lead q) 0 = 0
  | one :: F, h, v, hv, q, hq => by
    have h1 := h.on one List.mem_cons_self
    have hl := h.lt one List.mem_cons_self
    rw [rest_cons]
    rcases List.mem_cons.mp hq with rfl | hq
    · rw [rest_keep p0 hl h.tail.on (less_on p0 hv.1 h1.1) fun r hr => h.clr r (List.mem_cons_of_mem _ hr) q List.mem_cons_self (by have := h.ne r hr; omega)]
      rw [lessV_get (by rw [h1.1, hv.1]) (by rw [hv.1]; exact hl), h.one q List.mem_cons_self, Int.mul_one, Int.sub_self]
      rfl
    · exact rest_leads h.tail (less_on p0 hv.1 h1.1) q hq
theorem rest_mem : ∀ {F : List (List Int)}, Steps P wd F → ∀ r ∈ F, restBy P F r = zeroV wd
  | one :: F, h, r, hr => by
    have h1 := h.on one List.mem_cons_self
    rw [rest_cons]
    rcases List.mem_cons.mp hr with rfl | hr
    · rw [h.one r List.mem_cons_self, less_self p0 h1]
      exact rest_zero p0 h.tail.on
    · rw [h.clr r (List.mem_cons_of_mem _ hr) one List.mem_cons_self (by have := h.ne r hr; omega), less_none p0 (h.tail.on r hr) h1.1]
      exact rest_mem h.tail r hr
/-- what comes of the rows is left as nothing -/
theorem rest_null {F : List (List Int)} (h : Steps P wd F) {v : List Int} (hv : Sp P wd (· ∈ F) v) : restBy P F v = zeroV wd := by
  induction hv with
  | zero => exact rest_zero p0 h.on
  | step a b ih => rw [rest_lin p0 h.on h.lt (a.on p0 h.hS).1 (h.hS _ b), ih, rest_mem p0 h _ b]; exact less_zero p0 (zero_on p0)
/-- a place that no row with a number at its lead touches -/
theorem rest_at {a : Nat} (ha : a < wd) : ∀ {F : List (List Int)}, Steps P wd F → ∀ {v : List Int}, RowOn P wd v → (∀ q ∈ F, v.getD (lead q) 0 = 0 ∨ q.getD a 0 = 0) → (restBy P F v).getD a 0 = v.getD a 0
  | [], _, _, _, _ => rfl
  | one :: F, h, v, hv, hz => by
    have h1 := h.on one List.mem_cons_self
    rw [rest_cons]
    have e : ∀ j, j < wd → (v.getD (lead one) 0 = 0 ∨ one.getD j 0 = 0) → (lessV P v one (v.getD (lead one) 0)).getD j 0 = v.getD j 0 := fun j hj z => by
      rw [lessV_get (by rw [h1.1, hv.1]) (by rw [hv.1]; exact hj)]
      have e0 : v.getD (lead one) 0 * one.getD j 0 = 0 := by
        rcases z with z | z
        · rw [z, Int.zero_mul]
        · rw [z, Int.mul_zero]
      rw [e0, Int.sub_zero]
      exact emod_on (on_get hv.2 (by rw [hv.1]; exact hj))
    rw [rest_at ha h.tail (less_on p0 hv.1 h1.1) fun q hq => ?_]
    · exact e a ha (hz one List.mem_cons_self)
    · rw [e _ (h.tail.lt q hq) (.inr (h.clr one List.mem_cons_self q (List.mem_cons_of_mem _ hq) (by have := h.ne q hq; omega)))]
      exact hz q (List.mem_cons_of_mem _ hq)
/-- the lead of what comes of rows in steps form is one of theirs -/
theorem lead_in {F : List (List Int)} (h : Steps P wd F) {v : List Int} (hv : Sp P wd (· ∈ F) v) (hn : lead v < wd) : ∃ q ∈ F, lead q = lead v := by
  refine Classical.byContradiction fun no => ?_
  have on := hv.on p0 h.hS
  obtain ⟨b, c⟩ := lead_lt (by rw [on.1]; exact hn)
  have e := rest_at p0 hn h on fun q hq => by
    rcases Nat.lt_trichotomy (lead q) (lead v) with z | z | z
    · exact .inl (b _ z)
    · exact absurd ⟨q, hq, z⟩ no
    · exact .inr ((lead_lt (by rw [(h.on q hq).1]; exact h.lt q hq)).1 _ z)
  rw [rest_null p0 h hv, rep_get] at e
  exact c e.symm
theorem null_of {F : List (List Int)} (h : Steps P wd F) {v : List Int} (hv : Sp P wd (· ∈ F) v) (hz : ∀ q ∈ F, v.getD (lead q) 0 = 0) : v = zeroV wd := by
  have on := hv.on p0 h.hS
  by_cases hn : lead v < wd
  · obtain ⟨q, hq, e⟩ := lead_in p0 h hv hn
    have := (lead_lt (r := v) (by rw [on.1]; exact hn)).2
    rw [← e] at this
    exact absurd (hz q hq) this
  · have := lead_le v
    rw [lead_zero (r := v) (by omega), on.1]
omit p0 in
theorem inc_ext : ∀ {F G : List (List Int)}, F.Pairwise (fun a b => lead a < lead b) → G.Pairwise (fun a b => lead a < lead b) → (∀ x, x ∈ F ↔ x ∈ G) → F = G
  | [], [], _, _, _ => rfl
  | [], g :: G, _, _, h => by have := (h g).mpr List.mem_cons_self; simp at this
  | f :: F, [], _, _, h => by have := (h f).mp List.mem_cons_self; simp at this
  | f :: F, g :: G, hF, hG, h => by
    obtain ⟨f1, f2⟩ := List.pairwise_cons.mp hF
    obtain ⟨g1, g2⟩ := List.pairwise_cons.mp hG
    have e : f = g := by
      rcases List.mem_cons.mp ((h f).mp List.mem_cons_self) with z | z
      · exact z
      · rcases List.mem_cons.mp ((h g).mpr List.mem_cons_self) with y | y
        · exact y.symm
        · have := f1 g y
          have := g1 f z
          omega
    subst e
    rw [inc_ext f2 g2 fun x => ?_]
    constructor
    · intro hx
      rcases List.mem_cons.mp ((h x).mp (List.mem_cons_of_mem _ hx)) with z | z
      · subst z; have := f1 x hx; omega
      · exact z
    · intro hx
      rcases List.mem_cons.mp ((h x).mpr (List.mem_cons_of_mem _ hx)) with z | z
      · subst z; have := g1 x hx; omega
      · exact z
theorem steps_sub {F G : List (List Int)} (hF : Steps P wd F) (hG : Steps P wd G) (h1 : ∀ g ∈ G, Sp P wd (· ∈ F) g) (h2 : ∀ f ∈ F, Sp P wd (· ∈ G) f) : ∀ g ∈ G, g ∈ F := fun g hg => by
  obtain ⟨f, hf, e⟩ := lead_in p0 hF (h1 g hg) (hG.lt g hg)
  have of := hF.on f hf
  have og := hG.on g hg
  have hl := hG.lt g hg
  have z := null_of p0 hF ((h1 g hg).less p0 hF.hS (Sp.mem p0 (S := (· ∈ F)) hf of) (c := 1)) fun q hq => by
    have hq1 := hF.lt q hq
    rw [lessV_get (by rw [of.1, og.1]) (by rw [og.1]; exact hq1), Int.one_mul]
    by_cases hqf : lead q = lead f
    · rw [hqf, hF.one f hf, e, hG.one g hg]
      rfl
    · obtain ⟨g', hg', e'⟩ := lead_in p0 hG (h2 q hq) hq1
      rw [hF.clr f hf q hq hqf, ← e', hG.clr g hg g' hg' (by omega)]
      rfl
  have e2 := less_back p0 (c := 1) og of.1
  rw [z] at e2
  have e3 := less_neg p0 of
  rw [e3] at e2
  rw [← e2]
  exact hf
/-- rows in steps form are told by what comes of them -/
theorem steps_uniq {F G : List (List Int)} (hF : Steps P wd F) (hG : Steps P wd G) (h1 : ∀ g ∈ G, Sp P wd (· ∈ F) g) (h2 : ∀ f ∈ F, Sp P wd (· ∈ G) f) : F = G :=
  inc_ext hF.inc hG.inc fun x => ⟨steps_sub p0 hG hF h2 h1 x, steps_sub p0 hF hG h1 h2 x⟩
end
end W

namespace W
section
variable {P : Int} {wd : Nat} (hp : Prm P)
include hp
theorem Prm.one : 1 < P := by have := hp.lo; omega
/-- the new row: its lead is 1 -/
theorem newRow_ok {r : List Int} (hr : RowOn P wd r) (hl : lead r < wd) : RowOn P wd (newRow P r) ∧ lead (newRow P r) = lead r ∧ (newRow P r).getD (lead r) 0 = 1 ∧ newRow P r = lessV P (zeroV wd) r (-(backN P (r.getD (lead r) 0))) ∧ r = lessV P (zeroV wd) (newRow P r) (-(r.getD (lead r) 0)) := by
  have p1 := hp.one
  have on : RowOn P wd (newRow P r) := by
    have z := newRow_on (P := P) (show 0 < P by omega) (r := r)
    exact ⟨z.1.trans hr.1, z.2⟩
  obtain ⟨z1, z2⟩ := lead_lt (r := r) (by rw [hr.1]; exact hl)
  have hm : r.getD (lead r) 0 % P ≠ 0 := by
    rw [emod_on (on_get hr.2 (by rw [hr.1]; exact hl))]
    exact z2
  obtain ⟨b0, b1, b2⟩ := back_ok hp hm
  have get : ∀ j, j < wd → (newRow P r).getD j 0 = (backN P (r.getD (lead r) 0) * r.getD j 0) % P := fun j hj => by
    unfold newRow
    rw [getD_map _ 0 0 (by rw [hr.1]; exact hj)]
  have l1 : (newRow P r).getD (lead r) 0 = 1 := by rw [get _ hl]; exact b2
  refine ⟨on, lead_eq (by rw [on.1]; exact hl) (fun i hi => ?_) (by rw [l1]; omega), l1, ?_, ?_⟩
  · rw [get i (by omega), z1 i hi, Int.mul_zero]
    rfl
  · refine vext p1 on (less_on p1 (by simp) hr.1) fun j hj => ?_
    rw [get j hj]
    refine Em.mod.trans (Em.trans (Em.of_eq ?_) (less_em (by simp) hr.1 hj).symm)
    rw [rep_get]
    grind
  · refine vext p1 hr (less_on p1 (by simp) on.1) fun j hj => ?_
    refine Em.trans ?_ (less_em (by simp) on.1 hj).symm
    rw [get j hj, rep_get]
    obtain ⟨k, hk⟩ := exEm (p := P) (a := backN P (r.getD (lead r) 0) * r.getD (lead r) 0) (b := 1) (by show _ % P = 1 % P; rw [b2, Int.emod_eq_of_lt (by omega) p1])
    obtain ⟨m, hm⟩ := em_def (backN P (r.getD (lead r) 0) * r.getD j 0) P
    rw [hm]
    generalize backN P (r.getD (lead r) 0) = c at *
    generalize r.getD (lead r) 0 = x at *
    generalize r.getD j 0 = y at *
    exact emEx ⟨-(k * y) - x * m, by grind⟩
theorem less_lead {one nr : List Int} {a : Nat} (ho : RowOn P wd one) (hn : RowOn P wd nr) (hl : lead one < wd) (h1 : one.getD (lead one) 0 = 1) (ha : lead nr = a) (ha2 : a < wd) (hne : a ≠ lead one) (hz : nr.getD (lead one) 0 = 0) :
    lead (lessV P one nr (one.getD a 0)) = lead one ∧ (lessV P one nr (one.getD a 0)).getD (lead one) 0 = 1 := by
  have p1 := hp.one
  have on := less_on p1 (c := one.getD a 0) ho.1 hn.1
  obtain ⟨z1, z2⟩ := lead_lt (r := one) (by rw [ho.1]; exact hl)
  have get : ∀ j, j < wd → (lessV P one nr (one.getD a 0)).getD j 0 = (one.getD j 0 - one.getD a 0 * nr.getD j 0) % P := fun j hj => lessV_get (by rw [ho.1, hn.1]) (by rw [ho.1]; exact hj)
  have l1 : (lessV P one nr (one.getD a 0)).getD (lead one) 0 = 1 := by
    rw [get _ hl, hz, Int.mul_zero, Int.sub_zero, h1]
    exact Int.emod_eq_of_lt (by omega) p1
  refine ⟨lead_eq (by rw [on.1]; exact hl) (fun i hi => ?_) (by rw [l1]; omega), l1⟩
  rw [get i (by omega), z1 i hi]
  have e : one.getD a 0 * nr.getD i 0 = 0 := by
    by_cases h : one.getD a 0 = 0
    · rw [h, Int.zero_mul]
    · have : lead one < a := by
        rcases Nat.lt_trichotomy a (lead one) with q | q | q
        · exact absurd (z1 _ q) h
        · exact absurd q hne
        · exact q
      rw [(lead_lt (r := nr) (by rw [hn.1, ha]; exact ha2)).1 i (by omega), Int.mul_zero]
  rw [e]
  rfl
theorem inc_merge {F : List (List Int)} {X : List (List Int)} (hX : X.map lead = F.map lead) (hi : F.Pairwise fun a b => lead a < lead b) {r : List Int} (hr : ∀ q ∈ F, lead q ≠ lead r) :
    ((X ++ [r]).mergeSort fun a b => decide ((lead a : Int) ≤ (lead b : Int))).Pairwise fun a b => lead a < lead b := by
  have hs : ((X ++ [r]).mergeSort fun a b => decide ((lead a : Int) ≤ (lead b : Int))).Pairwise (fun a b => decide ((lead a : Int) ≤ (lead b : Int)) = true) :=
    List.pairwise_mergeSort (fun a b c h1 h2 => by simp at *; omega) (fun a b => by simp; omega) _
  have hn : (X ++ [r]).Pairwise fun a b => lead a ≠ lead b := by
    rw [List.pairwise_append]
    refine ⟨?_, List.pairwise_singleton _ _, fun a ha b hb => ?_⟩
    · have : (X.map lead).Pairwise (· ≠ ·) := by
        rw [hX, List.pairwise_map]
        exact hi.imp fun h => by omega
      rwa [List.pairwise_map] at this
    · rw [List.mem_singleton.mp hb]
      have : lead a ∈ F.map lead := by rw [← hX]; exact List.mem_map.mpr ⟨a, ha, rfl⟩
      obtain ⟨q, hq, e⟩ := List.mem_map.mp this
      rw [← e]
      exact hr q hq
  have hn2 : ((X ++ [r]).mergeSort fun a b => decide ((lead a : Int) ≤ (lead b : Int))).Pairwise fun a b => lead a ≠ lead b :=
    ((List.mergeSort_perm _ _).pairwise_iff fun h => Ne.symm h).mpr hn
  exact hs.imp₂ (fun a b h1 h2 => by
    have := of_decide_eq_true h1
    omega) hn2
theorem addRow_steps {F : List (List Int)} {r : List Int} (h : Steps P wd F) (hr : RowOn P wd r) (hl : lead r < wd) (hz : ∀ q ∈ F, r.getD (lead q) 0 = 0) : Steps P wd (addRow P F r) ∧ (∀ q ∈ addRow P F r, Sp P wd (fun x => x ∈ F ∨ x = r) q) ∧ (∀ q ∈ F, Sp P wd (· ∈ addRow P F r) q) ∧ Sp P wd (· ∈ addRow P F r) r := by
  have p1 := hp.one
  obtain ⟨n1, n2, n3, n4, n5⟩ := newRow_ok hp hr hl
  have hne : ∀ q ∈ F, lead r ≠ lead q := fun q hq e => (lead_lt (r := r) (by rw [hr.1]; exact hl)).2 (by rw [e]; exact hz q hq)
  have nz : ∀ q ∈ F, (newRow P r).getD (lead q) 0 = 0 := fun q hq => by
    unfold newRow
    rw [getD_map _ 0 0 (by rw [hr.1]; exact h.lt q hq), hz q hq, Int.mul_zero]
    rfl
  have mem : ∀ q, q ∈ addRow P F r ↔ (∃ one ∈ F, q = lessV P one (newRow P r) (one.getD (lead r) 0)) ∨ q = newRow P r := fun q => by
    rw [addRow, List.mem_mergeSort, List.mem_append, List.mem_singleton, List.mem_map]
    constructor
    · rintro (⟨a, b, c⟩ | z)
      · exact .inl ⟨a, b, c.symm⟩
      · exact .inr z
    · rintro (⟨a, b, c⟩ | z)
      · exact .inl ⟨a, b, c.symm⟩
      · exact .inr z
  have lo : ∀ one ∈ F, lead (lessV P one (newRow P r) (one.getD (lead r) 0)) = lead one ∧ (lessV P one (newRow P r) (one.getD (lead r) 0)).getD (lead one) 0 = 1 := fun one ho =>
    less_lead hp (h.on one ho) n1 (h.lt one ho) (h.one one ho) n2 hl (hne one ho) (nz one ho)
  have on : RowsOn P wd (addRow P F r) := addRow_on (by omega) h.on hr.1
  have g1 : ∀ one ∈ F, ∀ j, j < wd → (lessV P one (newRow P r) (one.getD (lead r) 0)).getD j 0 = (one.getD j 0 - one.getD (lead r) 0 * (newRow P r).getD j 0) % P := fun one ho j hj => lessV_get (by rw [(h.on one ho).1, n1.1]) (by rw [(h.on one ho).1]; exact hj)
  refine ⟨⟨on, fun q hq => ?_, fun q hq => ?_, fun x hx q hq => ?_, ?_⟩, fun q hq => ?_, fun q hq => ?_, ?_⟩
  · rcases (mem q).mp hq with ⟨one, ho, rfl⟩ | rfl
    · rw [(lo one ho).1]; exact h.lt one ho
    · rw [n2]; exact hl
  · rcases (mem q).mp hq with ⟨one, ho, rfl⟩ | rfl
    · rw [(lo one ho).1]; exact (lo one ho).2
    · rw [n2]; exact n3
  · rcases (mem x).mp hx with ⟨one, ho, rfl⟩ | rfl <;> rcases (mem q).mp hq with ⟨two, ht, rfl⟩ | rfl
    · rw [(lo one ho).1, (lo two ht).1]
      intro hlq
      rw [g1 one ho _ (h.lt two ht), h.clr one ho two ht hlq, nz two ht, Int.mul_zero]
      rfl
    · intro _
      rw [n2, g1 one ho _ hl, n3, Int.mul_one, Int.sub_self]
      rfl
    · intro _
      rw [(lo two ht).1]
      exact nz two ht
    · intro hlq
      exact absurd rfl hlq
  · unfold addRow
    refine inc_merge hp (F := F) ?_ h.inc fun q hq => by rw [n2]; exact (hne q hq).symm
    rw [List.map_map]
    exact List.map_congr_left fun one ho => (lo one ho).1
  · have hS : ∀ x, (x ∈ F ∨ x = r) → x.length = wd := fun x hx => by
      rcases hx with z | z
      · exact (h.on x z).1
      · rw [z]; exact hr.1
    have sn : Sp P wd (fun x => x ∈ F ∨ x = r) (newRow P r) := by rw [n4]; exact .step .zero (.inr rfl)
    rcases (mem q).mp hq with ⟨one, ho, rfl⟩ | rfl
    · exact (Sp.mem p1 (S := fun x => x ∈ F ∨ x = r) (.inl ho) (h.on one ho)).less p1 hS sn
    · exact sn
  · have e := less_back p1 (c := q.getD (lead r) 0) (h.on q hq) n1.1
    rw [← e]
    exact .step (Sp.mem p1 (S := (· ∈ addRow P F r)) ((mem _).mpr (.inl ⟨q, hq, rfl⟩)) (less_on p1 (h.on q hq).1 n1.1)) ((mem _).mpr (.inr rfl))
  · have e : Sp P wd (· ∈ addRow P F r) (lessV P (zeroV wd) (newRow P r) (-(r.getD (lead r) 0))) := .step .zero ((mem _).mpr (.inr rfl))
    rwa [← n5] at e
theorem withRow_steps {F : List (List Int)} {row : List Int} (h : Steps P wd F) (hr : RowOn P wd row) : Steps P wd (withRow P F row) ∧ (∀ q ∈ withRow P F row, Sp P wd (fun x => x ∈ F ∨ x = row) q) ∧ (∀ q ∈ F, Sp P wd (· ∈ withRow P F row) q) ∧ Sp P wd (· ∈ withRow P F row) row := by
  have p1 := hp.one
  have ro := rest_on (P := P) (show 0 < P by omega) h.on hr.1 hr.2
  have hS : ∀ x, (x ∈ F ∨ x = row) → x.length = wd := fun x hx => by
    rcases hx with z | z
    · exact (h.on x z).1
    · rw [z]; exact hr.1
  unfold withRow
  split
  · next e =>
    refine ⟨h, fun q hq => Sp.mem p1 (S := fun x => x ∈ F ∨ x = row) (.inl hq) (h.on q hq), fun q hq => Sp.mem p1 (S := (· ∈ F)) hq (h.on q hq), ?_⟩
    refine rest_ps p1 h.hS (fun q hq => Sp.mem p1 (S := (· ∈ F)) hq (h.on q hq)) hr ?_
    rw [lead_zero e, ro.1]
    exact .zero
  · next e =>
    have hl : lead (restBy P F row) < wd := by have := lead_le (restBy P F row); omega
    obtain ⟨a, b, c, d⟩ := addRow_steps hp h ro hl (rest_leads p1 h hr)
    refine ⟨a, fun q hq => (b q hq).bind p1 (fun x hx => ?_) hS fun x hx => ?_, c, rest_ps p1 a.hS c hr d⟩
    · rcases hx with z | z
      · exact (h.on x z).1
      · rw [z]; exact ro.1
    · rcases hx with z | z
      · exact Sp.mem p1 (S := fun x => x ∈ F ∨ x = row) (.inl z) (h.on x z)
      · rw [z]
        exact rest_sp p1 hS (fun q hq => Sp.mem p1 (S := fun x => x ∈ F ∨ x = row) (.inl hq) (h.on q hq)) (Sp.mem p1 (S := fun x => x ∈ F ∨ x = row) (.inr rfl) hr)
omit hp in
theorem steps_nil : Steps P wd [] := ⟨rows_nil, (fun _ h => nomatch h), (fun _ h => nomatch h), (fun _ h => nomatch h), .nil⟩
theorem fold_steps : ∀ {rows F : List (List Int)}, Steps P wd F → RowsOn P wd rows → Steps P wd (rows.foldl (withRow P) F) ∧ (∀ q ∈ rows.foldl (withRow P) F, Sp P wd (fun x => x ∈ F ∨ x ∈ rows) q) ∧ (∀ q, q ∈ F ∨ q ∈ rows → Sp P wd (· ∈ rows.foldl (withRow P) F) q)
  | [], F, h, _ => by
    have p1 := hp.one
    refine ⟨h, fun q hq => Sp.mem p1 (S := fun x => x ∈ F ∨ x ∈ []) (.inl hq) (h.on q hq), fun q hq => ?_⟩
    rcases hq with z | z
    · exact Sp.mem p1 (S := (· ∈ F)) z (h.on q z)
    · cases z
  | r :: rows, F, h, hr => by
    have p1 := hp.one
    have h1 := hr r List.mem_cons_self
    obtain ⟨a, b, c, d⟩ := withRow_steps hp h h1
    obtain ⟨e, f, g⟩ := fold_steps (rows := rows) a fun q hq => hr q (List.mem_cons_of_mem _ hq)
    have len : ∀ x, (x ∈ F ∨ x ∈ r :: rows) → x.length = wd := fun x hx => by
      rcases hx with z | z
      · exact (h.on x z).1
      · exact (hr x z).1
    have len2 : ∀ x, (x ∈ withRow P F r ∨ x ∈ rows) → x.length = wd := fun x hx => by
      rcases hx with z | z
      · exact (a.on x z).1
      · exact (hr x (List.mem_cons_of_mem _ z)).1
    refine ⟨e, fun q hq => (f q hq).bind p1 len2 len fun x hx => ?_, fun q hq => ?_⟩
    · rcases hx with z | z
      · refine (b x z).mono fun y hy => ?_
        rcases hy with w | w
        · exact .inl w
        · exact .inr (by rw [w]; exact List.mem_cons_self)
      · exact Sp.mem p1 (S := fun x => x ∈ F ∨ x ∈ r :: rows) (.inr (List.mem_cons_of_mem _ z)) (hr x (List.mem_cons_of_mem _ z))
    · have up : ∀ {y}, Sp P wd (· ∈ withRow P F r) y → Sp P wd (· ∈ rows.foldl (withRow P) (withRow P F r)) y := fun hy => hy.bind p1 a.hS e.hS fun x hx => g x (.inl hx)
      rcases hq with z | z
      · exact up (c q z)
      · rcases List.mem_cons.mp z with z | z
        · rw [z]; exact up d
        · exact g q (.inr z)
/-- the steps form: its rows are in steps form, and come of the handed ones, and these of them -/
theorem stepsForm_ok {rows : List (List Int)} (hr : RowsOn P wd rows) : Steps P wd (stepsForm P rows) ∧ (∀ q ∈ stepsForm P rows, Sp P wd (· ∈ rows) q) ∧ (∀ q ∈ rows, Sp P wd (· ∈ stepsForm P rows) q) := by
  obtain ⟨a, b, c⟩ := fold_steps hp (rows := rows) (F := []) steps_nil hr
  refine ⟨a, fun q hq => (b q hq).mono fun x hx => ?_, fun q hq => c q (.inr hq)⟩
  rcases hx with z | z
  · cases z
  · exact z
theorem steps_take {rows : List (List Int)} (hr : RowsOn P wd rows) (k : Nat) : Steps P wd (stepsForm P (rows.take k)) := (stepsForm_ok hp fun q hq => hr q (List.mem_of_mem_take hq)).1
/-- rows in steps form, in any order, have themselves as steps form -/
theorem steps_self {F G : List (List Int)} (h : Steps P wd F) (hG : ∀ x, x ∈ G ↔ x ∈ F) : stepsForm P G = F := by
  have p1 := hp.one
  obtain ⟨a, b, c⟩ := stepsForm_ok hp (rows := G) fun q hq => h.on q ((hG q).mp hq)
  exact (steps_uniq p1 h a (fun g hg => (b g hg).mono fun x hx => (hG x).mp hx) fun f hf => c f ((hG f).mpr hf)).symm
end
end W

namespace W
open PySem PySem.Spec PyProof.Rows L2 LR
def eRow (n k : Nat) : List Int := (List.range n).map fun i : Nat => if decide ((i : Int) = (k : Int)) then (1 : Int) else 0
def extRow (rows : List (List Int)) (k : Nat) : List Int := rows.getD k [] ++ eRow rows.length k
def extRows (rows : List (List Int)) : List (List Int) := (List.range rows.length).map (extRow rows)
def withWeights (P : Int) (rows : List (List Int)) : List (List Int) := stepsForm P (extRows rows)
def idleSums (P : Int) (wd : Nat) (rows : List (List Int)) : List (List Int) := ((withWeights P rows).filter fun r => decide (wd ≤ lead r)).map (List.drop wd)
/-- the row that shuts off, of rows in steps form and a rest -/
def shutRow (P : Int) (F : List (List Int)) (left : List Int) : List Int :=
  F.foldl (fun r one => r.set (lead one) ((0 - backN P (left.getD (lead left) 0) * one.getD (lead left) 0) % P)) ((zeroV left.length).set (lead left) (backN P (left.getD (lead left) 0)))
def shutOff (P : Int) (rows : List (List Int)) (goal : List Int) : List Int := shutRow P (stepsForm P rows) (restBy P (stepsForm P rows) goal)
theorem eRow_len {n k : Nat} : (eRow n k).length = n := by simp [eRow]
theorem eRow_get {n k i : Nat} (hi : i < n) : (eRow n k).getD i 0 = if i = k then 1 else 0 := by
  unfold eRow
  rw [getD_map _ 0 0 (by simpa using hi)]
  have e : (List.range n).getD i 0 = i := by rw [List.getD_eq_getElem?_getD, List.getElem?_range hi]; rfl
  rw [e]
  by_cases h : i = k
  · rw [if_pos h, if_pos (decide_eq_true (by omega))]
  · rw [if_neg h, if_neg (by simpa using fun z : (i : Int) = k => h (by omega))]
theorem eRow_on {P : Int} (p1 : 1 < P) {n k : Nat} : OnW P (eRow n k) := fun y hy => by
  obtain ⟨z, _, rfl⟩ := List.mem_map.mp hy
  split <;> omega
theorem extRow_on {P : Int} {wd : Nat} (p1 : 1 < P) {rows : List (List Int)} (h : RowsOn P wd rows) {k : Nat} (hk : k < rows.length) : RowOn P (wd + rows.length) (extRow rows k) := by
  obtain ⟨a, b⟩ := h _ (getD_mem (z := []) hk)
  refine ⟨by unfold extRow; rw [List.length_append, a, eRow_len], fun y hy => ?_⟩
  rcases List.mem_append.mp hy with z | z
  · exact b y z
  · exact eRow_on p1 y z
theorem extRows_on {P : Int} {wd : Nat} (p1 : 1 < P) {rows : List (List Int)} (h : RowsOn P wd rows) : RowsOn P (wd + rows.length) (extRows rows) := fun r hr => by
  obtain ⟨k, hk, rfl⟩ := List.mem_map.mp hr
  exact extRow_on p1 h (List.mem_range.mp hk)
theorem extRows_len (rows : List (List Int)) : (extRows rows).length = rows.length := by simp [extRows]
section
variable {P : Program} {w : World} {K : PySem.W.Frag} {mg : Str → Option Value} {base : Heap}
inductive rSteps : List PyData → Res → Prop
  | mk {p : Int} {wd : Nat} {rows : List (List Int)} (hp : Prm p) (hr : RowsOn p wd rows) (h : wd ≤ 1000) (hz : rows.length ≤ 800) : rSteps [.int p, lT rows] (.ok (.dat (lT (stepsForm p rows))))
  | own {p : Int} {wd : Nat} {rows : List (List Int)} {r : List Int} (hp : Prm p) (hr : RowsOn p wd (rows ++ [r])) (h : wd ≤ 1000) (hz : rows.length ≤ 799) (hl : lead (restBy p (stepsForm p rows) r) ≠ wd) : rSteps [.int p, lT (rows ++ [r])] (.ok (.own (.lst ((stepsForm p (rows ++ [r])).map tI))))
inductive rWeights : List PyData → Res → Prop
  | mk {p : Int} {wd : Nat} {rows : List (List Int)} (hp : Prm p) (hr : RowsOn p wd rows) (h : wd ≤ 100) (hz : rows.length ≤ 100) : rWeights [.int p, lT rows] (.ok (.dat (lT (withWeights p rows))))
inductive rIdleS : List PyData → Res → Prop
  | mk {p : Int} {wd : Nat} {rows : List (List Int)} (hp : Prm p) (hr : RowsOn p wd rows) (h : wd ≤ 100) (hz : rows.length ≤ 100) (h0 : 0 < rows.length) : rIdleS [.int p, lT rows] (.ok (.own (.lst ((idleSums p wd rows).map tI))))
local macro_rules | `(tactic| wtm_at "R") => `(tactic| first
  | ((with_reducible apply rWeights.mk) <;> first | (with_reducible assumption) | omega)
  | ((with_reducible apply rLead.mk) <;> first | (with_reducible assumption) | omega)
  | (constructor; all_goals try (wtm_at "sd")))
theorem shut_len : ∀ {F : List (List Int)} {r : List Int} {g : List Int → Int}, (F.foldl (fun r one => r.set (lead one) (g one)) r).length = r.length
  | [], _, _ => rfl
  | one :: F, r, g => by
    show (F.foldl (fun r one => r.set (lead one) (g one)) (r.set (lead one) (g one))).length = _
    rw [shut_len, List.length_set]
inductive rShut : List PyData → Res → Prop
  | mk {p : Int} {wd : Nat} {rows : List (List Int)} {goal : List Int} (hp : Prm p) (hr : RowsOn p wd rows) (hg : RowOn p wd goal) (h : wd ≤ 100) (hz : rows.length ≤ 100) (hl : lead (restBy p (stepsForm p rows) goal) < wd) : rShut [.int p, lT rows, tI goal] (.ok (.dat (tI (shutOff p rows goal))))
local macro_rules | `(tactic| wtm_at "R") => `(tactic| first
  | ((with_reducible apply rLead.mk) <;> first | (with_reducible assumption) | omega)
  | (constructor; all_goals try (wtm_at "sd")))
end
end W

namespace W
section
variable {P : Int} {wd : Nat} {rows : List (List Int)}
theorem app_get {a b : List Int} {j : Nat} (h : j < a.length) : (a ++ b).getD j 0 = a.getD j 0 := by
  rw [List.getD_eq_getElem?_getD, List.getD_eq_getElem?_getD, List.getElem?_append_left h]
theorem app_get2 {a b : List Int} {j : Nat} : (a ++ b).getD (a.length + j) 0 = b.getD j 0 := by
  rw [List.getD_eq_getElem?_getD, List.getD_eq_getElem?_getD, List.getElem?_append_right (by omega)]
  congr 2
  omega
theorem drop_get {a : List Int} {k j : Nat} : (a.drop k).getD j 0 = a.getD (k + j) 0 := by
  rw [List.getD_eq_getElem?_getD, List.getD_eq_getElem?_getD, List.getElem?_drop]
theorem take_get {a : List Int} {k j : Nat} (h : j < k) : (a.take k).getD j 0 = a.getD j 0 := by
  rw [List.getD_eq_getElem?_getD, List.getD_eq_getElem?_getD, List.getElem?_take_of_lt h]
theorem take_on {n : Nat} {v : List Int} (hv : RowOn P (wd + n) v) : RowOn P wd (v.take wd) := ⟨by rw [List.length_take, hv.1]; omega, fun y hy => hv.2 y (List.mem_of_mem_take hy)⟩
theorem drop_on {n : Nat} {v : List Int} (hv : RowOn P (wd + n) v) : RowOn P n (v.drop wd) := ⟨by rw [List.length_drop, hv.1]; omega, fun y hy => hv.2 y (List.mem_of_mem_drop hy)⟩
/-- what rows come to by weights -/
def combV (P : Int) (wd : Nat) (rows : List (List Int)) (cs : List Int) : List Int := (List.range wd).map fun j => (sm rows.length fun i => cs.getD i 0 * (rows.getD i []).getD j 0) % P
theorem comb_get {cs : List Int} {j : Nat} (hj : j < wd) : (combV P wd rows cs).getD j 0 = (sm rows.length fun i => cs.getD i 0 * (rows.getD i []).getD j 0) % P := by
  unfold combV
  rw [getD_map _ 0 0 (by simpa using hj)]
  have e : (List.range wd).getD j 0 = j := by rw [List.getD_eq_getElem?_getD, List.getElem?_range hj]; rfl
  rw [e]
variable (hp : Prm P) (hr : RowsOn P wd rows)
include hp
theorem comb_on {cs : List Int} : RowOn P wd (combV P wd rows cs) := by
  have p1 := hp.one
  refine ⟨by simp [combV], fun y hy => ?_⟩
  obtain ⟨z, _, rfl⟩ := List.mem_map.mp hy
  exact ⟨Int.emod_nonneg _ (by omega), Int.emod_lt_of_pos _ (by omega)⟩
include hr
theorem ext_head {k j : Nat} (hk : k < rows.length) (hj : j < wd) : (extRow rows k).getD j 0 = (rows.getD k []).getD j 0 := by
  unfold extRow
  exact app_get (by rw [(hr _ (getD_mem (z := []) hk)).1]; exact hj)
theorem ext_tail {k i : Nat} (hk : k < rows.length) (hi : i < rows.length) : (extRow rows k).getD (wd + i) 0 = if i = k then 1 else 0 := by
  unfold extRow
  have e := (hr _ (getD_mem (z := []) hk)).1
  have := app_get2 (a := rows.getD k []) (b := eRow rows.length k) (j := i)
  rw [e] at this
  rw [this, eRow_get hi]
theorem ext_len : ∀ r, r ∈ extRows rows → r.length = wd + rows.length := fun r h => (extRows_on hp.one hr r h).1
/-- what comes of the longer rows: its front is told by its weights -/
theorem ext_comb {v : List Int} (hv : Sp P (wd + rows.length) (· ∈ extRows rows) v) : ∀ j, j < wd → Em P (v.getD j 0) (sm rows.length fun i => v.getD (wd + i) 0 * (rows.getD i []).getD j 0) := by
  have p1 := hp.one
  induction hv with
  | zero =>
    intro j hj
    rw [rep_get]
    refine Em.of_eq ?_
    rw [show (sm rows.length fun i => (List.replicate (wd + rows.length) (0 : Int)).getD (wd + i) 0 * (rows.getD i []).getD j 0) = sm rows.length fun _ => 0 from sm_congr fun i _ => by rw [rep_get, Int.zero_mul]]
    rw [sm_zero]
  | @step v r c h hm ih =>
    intro j hj
    obtain ⟨k, hk, rfl⟩ := List.mem_map.mp hm
    have hk := List.mem_range.mp hk
    have lv := (h.on p1 (ext_len hp hr)).1
    have lr := ext_len hp hr _ hm
    refine (less_em lv lr (by omega)).trans ?_
    rw [ext_head hp hr hk hj]
    refine ((ih j hj).sub Em.refl).trans ?_
    have e1 : Em P (sm rows.length fun i => (lessV P v (extRow rows k) c).getD (wd + i) 0 * (rows.getD i []).getD j 0) (sm rows.length fun i => v.getD (wd + i) 0 * (rows.getD i []).getD j 0 + -c * (if i = k then (rows.getD i []).getD j 0 else 0)) := Em.sm fun i hi => by
      refine ((less_em lv lr (by omega)).mul Em.refl).trans (Em.of_eq ?_)
      rw [ext_tail hp hr hk hi]
      split <;> grind
    refine Em.trans (Em.of_eq ?_) e1.symm
    rw [sm_add, sm_mulL, sm_pick, if_pos hk]
    grind
/-- each thing that comes of the rows is the front of one that comes of the longer ones -/
theorem ext_lift {u : List Int} (hu : Sp P wd (· ∈ rows) u) : ∃ v, Sp P (wd + rows.length) (· ∈ extRows rows) v ∧ ∀ j, j < wd → v.getD j 0 = u.getD j 0 := by
  have p1 := hp.one
  induction hu with
  | zero => exact ⟨_, .zero, fun j _ => by rw [rep_get, rep_get]⟩
  | @step u r c h hm ih =>
    obtain ⟨v, hv, e⟩ := ih
    obtain ⟨k, hk, rfl⟩ := List.mem_iff_getElem.mp hm
    have em : extRow rows k ∈ extRows rows := List.mem_map.mpr ⟨k, List.mem_range.mpr hk, rfl⟩
    have ek : rows.getD k [] = rows[k] := by rw [List.getD_eq_getElem?_getD, List.getElem?_eq_getElem hk]; rfl
    refine ⟨_, .step (c := c) hv em, fun j hj => ?_⟩
    have lv := (hv.on p1 (ext_len hp hr)).1
    have lr := ext_len hp hr _ em
    have lu := (h.on p1 fun r hr' => (hr r hr').1).1
    have lk := (hr _ hm).1
    rw [lessV_get (by rw [lr, lv]) (by omega), lessV_get (by rw [lu, lk]) (by omega), e j hj, ext_head hp hr hk hj, ek]
theorem ww_steps : Steps P (wd + rows.length) (withWeights P rows) ∧ (∀ q, Sp P (wd + rows.length) (· ∈ withWeights P rows) q ↔ Sp P (wd + rows.length) (· ∈ extRows rows) q) := by
  have p1 := hp.one
  have hE := extRows_on p1 hr
  obtain ⟨a, b, c⟩ := stepsForm_ok hp hE
  exact ⟨a, fun q => ⟨fun h => h.bind p1 a.hS (ext_len hp hr) b, fun h => h.bind p1 (ext_len hp hr) a.hS c⟩⟩
theorem fr_lead {v : List Int} (hv : v.length = wd + rows.length) (h : wd ≤ lead v) : ∀ j, j < wd → v.getD j 0 = 0 := fun j hj => by
  rcases lead_cases v with ⟨z, _⟩ | ⟨_, z, _⟩
  · exact z j (by omega)
  · exact z j (by omega)
theorem lead_fr {v : List Int} (hv : v.length = wd + rows.length) (h : ∀ j, j < wd → v.getD j 0 = 0) : wd ≤ lead v := by
  rcases Nat.lt_or_ge (lead v) wd with q | q
  · exact absurd (h _ q) (lead_lt (r := v) (by omega)).2
  · exact q
/-- the idle weights bring the rows to nothing -/
theorem idle_null {w : List Int} (hw : w ∈ idleSums P wd rows) : w.length = rows.length ∧ OnW P w ∧ ∀ j, j < wd → Em P 0 (sm rows.length fun i => w.getD i 0 * (rows.getD i []).getD j 0) := by
  have p1 := hp.one
  obtain ⟨a, b⟩ := ww_steps hp hr
  obtain ⟨v, hv, rfl⟩ := List.mem_map.mp hw
  obtain ⟨hv1, hv2⟩ := List.mem_filter.mp hv
  have on := a.on v hv1
  have hl := of_decide_eq_true hv2
  refine ⟨(drop_on on).1, (drop_on on).2, fun j hj => ?_⟩
  have e := ext_comb hp hr ((b v).mp (Sp.mem p1 (S := (· ∈ withWeights P rows)) hv1 on)) j hj
  rw [fr_lead hp hr on.1 hl j hj] at e
  refine e.trans (Em.of_eq (sm_congr fun i hi => ?_))
  rw [drop_get]
omit hr in
theorem lead_drop {n : Nat} {v : List Int} (hv : v.length = wd + n) (h : wd ≤ lead v) : lead (v.drop wd) = lead v - wd := by
  rcases lead_cases v with ⟨z, e⟩ | ⟨x, y, z⟩
  · have : v.drop wd = zeroV n := by
      refine ext_getD 0 (by rw [List.length_drop, hv]; simp) fun i hi => ?_
      rw [List.length_drop] at hi
      rw [drop_get, rep_get]
      exact z _ (by omega)
    rw [this, zero_lead, e]
    omega
  · refine lead_eq (by rw [List.length_drop]; omega) (fun i hi => ?_) ?_
    · rw [drop_get]; exact y _ (by omega)
    · rw [drop_get]
      have : wd + (lead v - wd) = lead v := by omega
      rw [this]; exact z
theorem idle_steps : Steps P rows.length (idleSums P wd rows) := by
  have p1 := hp.one
  obtain ⟨a, _⟩ := ww_steps hp hr
  have mem : ∀ w, w ∈ idleSums P wd rows → ∃ v ∈ withWeights P rows, wd ≤ lead v ∧ w = v.drop wd ∧ lead w = lead v - wd := fun w hw => by
    obtain ⟨v, hv, rfl⟩ := List.mem_map.mp hw
    obtain ⟨hv1, hv2⟩ := List.mem_filter.mp hv
    have hl := of_decide_eq_true hv2
    exact ⟨v, hv1, hl, rfl, lead_drop hp (a.on v hv1).1 hl⟩
  refine ⟨fun w hw => ?_, fun w hw => ?_, fun w hw => ?_, fun w hw u hu => ?_, ?_⟩
  · obtain ⟨v, hv, _, rfl, _⟩ := mem w hw
    exact drop_on (a.on v hv)
  · obtain ⟨v, hv, hl, rfl, e⟩ := mem w hw
    have := a.lt v hv
    omega
  · obtain ⟨v, hv, hl, rfl, e⟩ := mem w hw
    rw [e, drop_get]
    have : wd + (lead v - wd) = lead v := by omega
    rw [this]
    exact a.one v hv
  · obtain ⟨v, hv, hl, rfl, e⟩ := mem w hw
    obtain ⟨x, hx, hl2, rfl, e2⟩ := mem u hu
    rw [e, e2]
    intro hne
    rw [drop_get]
    have : wd + (lead x - wd) = lead x := by omega
    rw [this]
    exact a.clr v hv x hx (by omega)
  · unfold idleSums
    rw [List.pairwise_map]
    refine ((a.inc.filter _).imp_of_mem fun {x y} hx hy h => ?_)
    obtain ⟨hx1, hx2⟩ := List.mem_filter.mp hx
    obtain ⟨hy1, hy2⟩ := List.mem_filter.mp hy
    rw [lead_drop hp (a.on x hx1).1 (of_decide_eq_true hx2), lead_drop hp (a.on y hy1).1 (of_decide_eq_true hy2)]
    have := of_decide_eq_true hx2
    omega
/-- a thing with a front of nothing comes of the rows with such fronts -/
theorem fr_rest : ∀ {F : List (List Int)}, Steps P (wd + rows.length) F → ∀ {v : List Int}, RowOn P (wd + rows.length) v → (∀ j, j < wd → v.getD j 0 = 0) → restBy P F v = restBy P (F.filter fun r => decide (wd ≤ lead r)) v ∧ ∀ j, j < wd → (restBy P F v).getD j 0 = 0
  | [], _, _, _, h => ⟨rfl, h⟩
  | one :: F, hF, v, hv, h => by
    have p1 := hp.one
    have h1 := hF.on one List.mem_cons_self
    have hl := hF.lt one List.mem_cons_self
    by_cases hw : wd ≤ lead one
    · have hz : ∀ j, j < wd → (lessV P v one (v.getD (lead one) 0)).getD j 0 = 0 := fun j hj => by
        rw [lessV_get (by rw [h1.1, hv.1]) (by rw [hv.1]; omega), h j hj, fr_lead hp hr h1.1 hw j hj, Int.mul_zero]
        rfl
      obtain ⟨a, b⟩ := fr_rest hF.tail (less_on p1 hv.1 h1.1) hz
      rw [List.filter_cons, if_pos (decide_eq_true hw), rest_cons, rest_cons]
      exact ⟨a, b⟩
    · obtain ⟨a, b⟩ := fr_rest hF.tail hv h
      rw [List.filter_cons, if_neg (by simpa using hw), rest_cons, h _ (by omega), less_none p1 hv h1.1]
      exact ⟨a, b⟩
/-- the rest by longer rows with fronts of nothing, behind the fronts -/
theorem drop_rest : ∀ {F : List (List Int)}, RowsOn P (wd + rows.length) F → (∀ q ∈ F, wd ≤ lead q ∧ lead q < wd + rows.length) → ∀ {v : List Int}, RowOn P (wd + rows.length) v → (restBy P F v).drop wd = restBy P (F.map (List.drop wd)) (v.drop wd)
  | [], _, _, _, _ => rfl
  | one :: F, hF, hl, v, hv => by
    have p1 := hp.one
    have h1 := hF one List.mem_cons_self
    have h2 := hl one List.mem_cons_self
    have e : (lessV P v one (v.getD (lead one) 0)).drop wd = lessV P (v.drop wd) (one.drop wd) ((v.drop wd).getD (lead (one.drop wd)) 0) := by
      have e2 : (v.drop wd).getD (lead (one.drop wd)) 0 = v.getD (lead one) 0 := by
        rw [lead_drop hp h1.1 h2.1, drop_get]
        congr 1
        omega
      rw [e2]
      have l1 := (drop_on hv).1
      have l2 := (drop_on h1).1
      have l3 := (less_on p1 (c := v.getD (lead one) 0) hv.1 h1.1)
      refine ext_getD 0 (by rw [(drop_on l3).1, lessV_len (by rw [l1, l2]), l1]) fun i hi => ?_
      rw [(drop_on l3).1] at hi
      rw [drop_get, lessV_get (by rw [hv.1, h1.1]) (by rw [hv.1]; omega), lessV_get (by rw [l1, l2]) (by rw [l1]; exact hi), drop_get, drop_get]
    show (restBy P F (lessV P v one (v.getD (lead one) 0))).drop wd = restBy P (F.map (List.drop wd)) (lessV P (v.drop wd) (one.drop wd) ((v.drop wd).getD (lead (one.drop wd)) 0))
    rw [← e]
    exact drop_rest (fun q hq => hF q (List.mem_cons_of_mem _ hq)) (fun q hq => hl q (List.mem_cons_of_mem _ hq)) (less_on p1 hv.1 h1.1)
end
end W

namespace W
section
variable {P : Int} {wd : Nat} (p1 : 1 < P)
include p1
theorem rest_idem : ∀ {F : List (List Int)}, RowsOn P wd F → ∀ {v : List Int}, RowOn P wd v → (∀ q ∈ F, v.getD (lead q) 0 = 0) → restBy P F v = v
  | [], _, _, _, _ => rfl
  | one :: F, hF, v, hv, h => by
    rw [rest_cons, h one List.mem_cons_self, less_none p1 hv (hF one List.mem_cons_self).1]
    exact rest_idem (fun q hq => hF q (List.mem_cons_of_mem _ hq)) hv fun q hq => h q (List.mem_cons_of_mem _ hq)
theorem null_of_rest {F : List (List Int)} (h : Steps P wd F) {v : List Int} (hv : RowOn P wd v) (hz : restBy P F v = zeroV wd) : Sp P wd (· ∈ F) v :=
  rest_ps p1 h.hS (fun q hq => Sp.mem p1 (S := (· ∈ F)) hq (h.on q hq)) hv (by rw [hz]; exact .zero)
theorem sub_rest {F : List (List Int)} (h : Steps P wd F) {v : List Int} (hv : RowOn P wd v) : Sp P wd (· ∈ F) (lessV P v (restBy P F v) 1) := by
  have ro := rest_on (P := P) (show 0 < P by omega) h.on hv.1 hv.2
  refine null_of_rest p1 h (less_on p1 hv.1 ro.1) ?_
  rw [rest_lin p1 h.on h.lt hv.1 ro.1, rest_idem p1 h.on ro (rest_leads p1 h hv)]
  exact less_self p1 ro
end
section
variable {P : Int} {wd : Nat} {rows : List (List Int)} (hp : Prm P) (hr : RowsOn P wd rows)
include hp hr
/-- what is left of a goal with the weights 0 -/
def leftOf (P : Int) (rows : List (List Int)) (goal : List Int) : List Int := restBy P (withWeights P rows) (goal ++ zeroV rows.length)
theorem goal_on {goal : List Int} (hg : RowOn P wd goal) : RowOn P (wd + rows.length) (goal ++ zeroV rows.length) := by
  have p1 := hp.one
  refine ⟨by rw [List.length_append, hg.1]; simp, fun y hy => ?_⟩
  rcases List.mem_append.mp hy with z | z
  · exact hg.2 y z
  · exact (zero_on p1 (wd := rows.length)).2 y z
theorem left_on {goal : List Int} (hg : RowOn P wd goal) : RowOn P (wd + rows.length) (leftOf P rows goal) := by
  have p1 := hp.one
  have q := goal_on hp hr hg
  exact rest_on (by omega) (ww_steps hp hr).1.on q.1 q.2
theorem goal_get {goal : List Int} (hg : RowOn P wd goal) {j : Nat} (hj : j < wd) : (goal ++ zeroV rows.length).getD j 0 = goal.getD j 0 := app_get (by rw [hg.1]; exact hj)
theorem goal_get2 {goal : List Int} (hg : RowOn P wd goal) {i : Nat} : (goal ++ zeroV rows.length).getD (wd + i) 0 = 0 := by
  have := app_get2 (a := goal) (b := zeroV rows.length) (j := i)
  rw [hg.1] at this
  rw [this, rep_get]
/-- the weights told -/
def toldW (P : Int) (wd : Nat) (rows : List (List Int)) (goal : List Int) : List Int := ((leftOf P rows goal).drop wd).map fun x => (0 - x) % P
theorem told_ok {goal : List Int} (hg : RowOn P wd goal) (hl : wd ≤ lead (leftOf P rows goal)) : RowOn P rows.length (toldW P wd rows goal) ∧ ∀ j, j < wd → Em P (goal.getD j 0) (sm rows.length fun i => (toldW P wd rows goal).getD i 0 * (rows.getD i []).getD j 0) := by
  have p1 := hp.one
  have lo := left_on hp hr hg
  have go := goal_on hp hr hg
  obtain ⟨a, b⟩ := ww_steps hp hr
  refine ⟨⟨by unfold toldW; rw [List.length_map]; exact (drop_on lo).1, fun y hy => ?_⟩, fun j hj => ?_⟩
  · obtain ⟨z, _, rfl⟩ := List.mem_map.mp hy
    exact ⟨Int.emod_nonneg _ (by omega), Int.emod_lt_of_pos _ (by omega)⟩
  · have s := (b _).mp (sub_rest p1 a go)
    have e := ext_comb hp hr s j hj
    have f0 : (leftOf P rows goal).getD j 0 = 0 := fr_lead hp hr lo.1 hl j hj
    have e1 : (lessV P (goal ++ zeroV rows.length) (leftOf P rows goal) 1).getD j 0 = goal.getD j 0 := by
      rw [lessV_get (by rw [lo.1, go.1]) (by rw [go.1]; omega), f0, goal_get hp hr hg hj, Int.mul_zero, Int.sub_zero]
      exact emod_on (on_get hg.2 (by rw [hg.1]; exact hj))
    rw [show restBy P (withWeights P rows) (goal ++ zeroV rows.length) = leftOf P rows goal from rfl, e1] at e
    refine e.trans (Em.of_eq (sm_congr fun i hi => ?_))
    congr 1
    rw [lessV_get (by rw [lo.1, go.1]) (by rw [go.1]; omega), goal_get2 hp hr hg, Int.one_mul]
    unfold toldW
    rw [getD_map _ 0 0 (by rw [(drop_on lo).1]; exact hi), drop_get]
theorem left_in {goal : List Int} (hg : Sp P wd (· ∈ rows) goal) : wd ≤ lead (leftOf P rows goal) := by
  have p1 := hp.one
  have hgo := hg.on p1 fun r h => (hr r h).1
  have lo := left_on hp hr hgo
  have go := goal_on hp hr hgo
  obtain ⟨a, b⟩ := ww_steps hp hr
  obtain ⟨v, hv, hf⟩ := ext_lift hp hr hg
  have von := hv.on p1 (ext_len hp hr)
  have d0 : ∀ j, j < wd → (lessV P (goal ++ zeroV rows.length) v 1).getD j 0 = 0 := fun j hj => by
    rw [lessV_get (by rw [von.1, go.1]) (by rw [go.1]; omega), goal_get hp hr hgo hj, hf j hj, Int.one_mul, Int.sub_self]
    rfl
  have e := (fr_rest hp hr a (less_on p1 (c := 1) go.1 von.1) d0).2
  rw [rest_lin p1 a.on a.lt go.1 von.1, rest_null p1 a ((b v).mpr hv), show restBy P (withWeights P rows) (goal ++ zeroV rows.length) = leftOf P rows goal from rfl, less_zero p1 lo] at e
  exact lead_fr hp hr lo.1 e
theorem rest_in {goal : List Int} (hg : RowOn P wd goal) (h : ¬ lead (restBy P (stepsForm P rows) goal) < wd) : Sp P wd (· ∈ rows) goal := by
  have p1 := hp.one
  obtain ⟨a, b, c⟩ := stepsForm_ok hp hr
  have ro := rest_on (P := P) (show 0 < P by omega) a.on hg.1 hg.2
  have hz : restBy P (stepsForm P rows) goal = zeroV wd := by
    have := lead_le (restBy P (stepsForm P rows) goal)
    rw [lead_zero (r := restBy P (stepsForm P rows) goal) (by omega), ro.1]
  exact (null_of_rest p1 a hg hz).bind p1 a.hS (fun r h => (hr r h).1) b
theorem shut_in {goal : List Int} (hg : RowOn P wd goal) (hl : lead (leftOf P rows goal) < wd) : lead (restBy P (stepsForm P rows) goal) < wd := by
  refine Classical.byContradiction fun h => ?_
  have := left_in hp hr (rest_in hp hr hg h)
  omega
end
/-! what shuts off -/
def dotV (wd : Nat) (z v : List Int) : Int := sm wd fun j => z.getD j 0 * v.getD j 0
theorem getD_set' {α : Type} {l : List α} {i j : Nat} {v z : α} (h : j < l.length) : (l.set i v).getD j z = if i = j then v else l.getD j z := by
  rw [List.getD_eq_getElem?_getD, List.getElem?_set, List.getD_eq_getElem?_getD]
  by_cases e : i = j
  · subst e; rw [if_pos rfl, if_pos rfl, if_pos h]; rfl
  · rw [if_neg e, if_neg e]
theorem dot_set {wd x : Nat} {z v : List Int} {c : Int} (hz : z.length = wd) (hx : x < wd) (h0 : z.getD x 0 = 0) : dotV wd (z.set x c) v = dotV wd z v + c * v.getD x 0 := by
  unfold dotV
  have e : (sm wd fun j => (z.set x c).getD j 0 * v.getD j 0) = sm wd fun j => z.getD j 0 * v.getD j 0 + if j = x then c * v.getD j 0 else 0 :=
    sm_congr fun j hj => by
      rw [getD_set' (by omega)]
      by_cases h : x = j
      · subst h
        rw [if_pos rfl, if_pos rfl, h0]
        omega
      · rw [if_neg h, if_neg (fun z => h z.symm), Int.add_zero]
  rw [e, sm_add, sm_pick, if_pos hx]
theorem dot_fold {wd : Nat} {g : List Int → Int} {v : List Int} : ∀ {F : List (List Int)} {r : List Int}, r.length = wd → (∀ q ∈ F, lead q < wd) → F.Pairwise (fun a b => lead a < lead b) → (∀ q ∈ F, r.getD (lead q) 0 = 0) →
    dotV wd (F.foldl (fun r one => r.set (lead one) (g one)) r) v = dotV wd r v + (F.map fun q => g q * v.getD (lead q) 0).sum
  | [], r, _, _, _, _ => by simp
  | one :: F, r, hr, hl, hi, h0 => by
    obtain ⟨i1, i2⟩ := List.pairwise_cons.mp hi
    have l1 := hl one List.mem_cons_self
    show dotV wd (F.foldl (fun r one => r.set (lead one) (g one)) (r.set (lead one) (g one))) v = _
    rw [dot_fold (by rw [List.length_set]; exact hr) (fun q hq => hl q (List.mem_cons_of_mem _ hq)) i2 fun q hq => ?_, dot_set hr l1 (h0 one List.mem_cons_self), List.map_cons, List.sum_cons, Int.add_assoc]
    rw [getD_set' (by have := hl q (List.mem_cons_of_mem _ hq); omega), if_neg (by have := i1 q hq; omega)]
    exact h0 q (List.mem_cons_of_mem _ hq)
theorem sum_zero {F : List (List Int)} {g : List Int → Int} (h : ∀ q ∈ F, g q = 0) : (F.map g).sum = 0 := by
  induction F with
  | nil => rfl
  | cons a F ih => rw [List.map_cons, List.sum_cons, h a List.mem_cons_self, ih fun q hq => h q (List.mem_cons_of_mem _ hq)]; rfl
theorem sum_pick {P : Int} {wd : Nat} {g : List Int → Int} : ∀ {F : List (List Int)}, Steps P wd F → ∀ r ∈ F, (F.map fun q => g q * r.getD (lead q) 0).sum = g r
  | one :: F, h, r, hr => by
    rw [List.map_cons, List.sum_cons]
    rcases List.mem_cons.mp hr with rfl | hr
    · rw [h.one r List.mem_cons_self, sum_zero fun q hq => by rw [h.clr r List.mem_cons_self q (List.mem_cons_of_mem _ hq) (by have := h.ne q hq; omega), Int.mul_zero]]
      omega
    · rw [h.clr r (List.mem_cons_of_mem _ hr) one List.mem_cons_self (by have := h.ne r hr; omega), sum_pick h.tail r hr]
      omega
theorem dot_less {P : Int} {wd : Nat} {z v u : List Int} {c : Int} (hv : v.length = wd) (hu : u.length = wd) : Em P (dotV wd z (lessV P v u c)) (dotV wd z v - c * dotV wd z u) := by
  unfold dotV
  have e1 : Em P (sm wd fun j => z.getD j 0 * (lessV P v u c).getD j 0) (sm wd fun j => z.getD j 0 * v.getD j 0 + -c * (z.getD j 0 * u.getD j 0)) := Em.sm fun j hj => (Em.refl.mul (less_em hv hu hj)).trans (Em.of_eq (by grind))
  refine e1.trans (Em.of_eq ?_)
  rw [sm_add, sm_mulL]
  grind
theorem dot_zero {wd : Nat} {z : List Int} : dotV wd z (zeroV wd) = 0 := by
  unfold dotV
  rw [show (sm wd fun j => z.getD j 0 * (zeroV wd).getD j 0) = sm wd fun _ => 0 from sm_congr fun j _ => by rw [rep_get, Int.mul_zero]]
  exact sm_zero
theorem dot_sp {P : Int} {wd : Nat} {z v : List Int} {S : List Int → Prop} (p1 : 1 < P) (hS : ∀ r, S r → r.length = wd) (h : ∀ r, S r → Em P (dotV wd z r) 0) (hv : Sp P wd S v) : Em P (dotV wd z v) 0 := by
  induction hv with
  | zero => rw [dot_zero]; exact Em.refl
  | @step v r c a b ih =>
    refine (dot_less (a.on p1 hS).1 (hS _ b)).trans ((ih.sub (Em.refl.mul (h _ b))).trans (Em.of_eq ?_))
    omega
section
variable {P : Int} {wd : Nat} (hp : Prm P)
include hp
theorem set_on {r : List Int} {x : Nat} {c : Int} (h : OnW P r) (h0 : 0 ≤ c) (h1 : c < P) : OnW P (r.set x c) := fun y hy => by
  rcases List.mem_or_eq_of_mem_set hy with z | z
  · exact h y z
  · rw [z]; exact ⟨h0, h1⟩
theorem shutRow_ok {F : List (List Int)} {left : List Int} (h : Steps P wd F) (hl : RowOn P wd left) (ha : lead left < wd) (hz : ∀ q ∈ F, left.getD (lead q) 0 = 0) :
    RowOn P wd (shutRow P F left) ∧ (∀ q ∈ F, Em P (dotV wd (shutRow P F left) q) 0) ∧ Em P (dotV wd (shutRow P F left) left) 1 := by
  have p1 := hp.one
  have nz := (lead_lt (r := left) (by rw [hl.1]; exact ha)).2
  have hm : left.getD (lead left) 0 % P ≠ 0 := by
    rw [emod_on (on_get hl.2 (by rw [hl.1]; exact ha))]
    exact nz
  obtain ⟨b0, b1, b2⟩ := back_ok hp hm
  have hne : ∀ q ∈ F, lead left ≠ lead q := fun q hq e => nz (by rw [e]; exact hz q hq)
  have zl : ((zeroV left.length).set (lead left) (backN P (left.getD (lead left) 0))).length = wd := by rw [List.length_set]; simp [hl.1]
  have dot : ∀ v, dotV wd (shutRow P F left) v = backN P (left.getD (lead left) 0) * v.getD (lead left) 0 + (F.map fun q => (0 - backN P (left.getD (lead left) 0) * q.getD (lead left) 0) % P * v.getD (lead q) 0).sum := fun v => by
    unfold shutRow
    rw [dot_fold (g := fun one => (0 - backN P (left.getD (lead left) 0) * one.getD (lead left) 0) % P) zl h.lt h.inc fun q hq => ?_]
    · rw [dot_set (by simp [hl.1]) ha rep_get]
      have : dotV wd (zeroV left.length) v = 0 := by
        unfold dotV
        rw [show (sm wd fun j => (zeroV left.length).getD j 0 * v.getD j 0) = sm wd fun _ => 0 from sm_congr fun j _ => by rw [rep_get, Int.zero_mul]]
        exact sm_zero
      rw [this, Int.zero_add]
    · rw [getD_set' (by have := h.lt q hq; simp [hl.1]; omega), if_neg (hne q hq), rep_get]
  refine ⟨⟨?_, ?_⟩, fun q hq => ?_, ?_⟩
  · unfold shutRow
    rw [shut_len (g := fun one => (0 - backN P (left.getD (lead left) 0) * one.getD (lead left) 0) % P)]
    exact zl
  · unfold shutRow
    have key : ∀ {F : List (List Int)} {r : List Int}, OnW P r → OnW P (F.foldl (fun r one => r.set (lead one) ((0 - backN P (left.getD (lead left) 0) * one.getD (lead left) 0) % P)) r) := by
      intro F
      induction F with
      | nil => exact fun h => h
      | cons one F ih => exact fun h => ih (set_on hp h (Int.emod_nonneg _ (by omega)) (Int.emod_lt_of_pos _ (by omega)))
    exact key (set_on hp (zero_on p1).2 b0 b1)
  · rw [dot q, sum_pick (g := fun q => (0 - backN P (left.getD (lead left) 0) * q.getD (lead left) 0) % P) h q hq]
    refine (Em.refl.add Em.mod).trans (Em.of_eq ?_)
    omega
  · rw [dot left, sum_zero fun q hq => by rw [hz q hq, Int.mul_zero], Int.add_zero]
    show _ % P = 1 % P
    rw [b2, Int.emod_eq_of_lt (by omega) p1]
theorem shutOff_ok {rows : List (List Int)} {goal : List Int} (hr : RowsOn P wd rows) (hg : RowOn P wd goal) (hl : lead (restBy P (stepsForm P rows) goal) < wd) :
    RowOn P wd (shutOff P rows goal) ∧ (∀ q ∈ rows, Em P (dotV wd (shutOff P rows goal) q) 0) ∧ Em P (dotV wd (shutOff P rows goal) goal) 1 := by
  have p1 := hp.one
  obtain ⟨a, b, c⟩ := stepsForm_ok hp hr
  have ro := rest_on (P := P) (show 0 < P by omega) a.on hg.1 hg.2
  obtain ⟨x, y, z⟩ := shutRow_ok hp a ro hl (rest_leads p1 a hg)
  have n : ∀ v, Sp P wd (· ∈ stepsForm P rows) v → Em P (dotV wd (shutOff P rows goal) v) 0 := fun v hv => dot_sp p1 a.hS y hv
  refine ⟨x, fun q hq => n q (c q hq), ?_⟩
  have e := n _ (sub_rest p1 a hg)
  have e2 := (dot_less (P := P) (z := shutOff P rows goal) (c := 1) hg.1 ro.1).symm.trans e
  have z : Em P (dotV wd (shutOff P rows goal) (restBy P (stepsForm P rows) goal)) 1 := z
  have e3 := e2.add z
  refine Em.trans (Em.of_eq ?_) (e3.trans (Em.of_eq ?_))
  · omega
  · omega
end
end W

namespace W
section
variable {P : Int} {wd : Nat} {rows : List (List Int)} (hp : Prm P) (hr : RowsOn P wd rows)
include hp hr
/-- weights that bring the rows to nothing: closed -/
theorem null_less {v u : List Int} {c : Int} (hv : v.length = rows.length) (hu : u.length = rows.length) {j : Nat} (h1 : Em P 0 (sm rows.length fun i => v.getD i 0 * (rows.getD i []).getD j 0)) (h2 : Em P 0 (sm rows.length fun i => u.getD i 0 * (rows.getD i []).getD j 0)) :
    Em P 0 (sm rows.length fun i => (lessV P v u c).getD i 0 * (rows.getD i []).getD j 0) := by
  have e1 : Em P (sm rows.length fun i => (lessV P v u c).getD i 0 * (rows.getD i []).getD j 0) (sm rows.length fun i => v.getD i 0 * (rows.getD i []).getD j 0 + -c * (u.getD i 0 * (rows.getD i []).getD j 0)) := Em.sm fun i hi => ((less_em hv hu hi).mul Em.refl).trans (Em.of_eq (by grind))
  refine Em.trans ?_ e1.symm
  rw [sm_add, sm_mulL]
  refine Em.trans (Em.of_eq ?_) (h1.add ((Em.refl (a := -c)).mul h2))
  omega
theorem null_sp {v : List Int} (hv : Sp P rows.length (· ∈ idleSums P wd rows) v) : RowOn P rows.length v ∧ ∀ j, j < wd → Em P 0 (sm rows.length fun i => v.getD i 0 * (rows.getD i []).getD j 0) := by
  have p1 := hp.one
  have hS : ∀ r, r ∈ idleSums P wd rows → r.length = rows.length := fun r h => (idle_null hp hr h).1
  refine ⟨hv.on p1 hS, ?_⟩
  induction hv with
  | zero =>
    intro j _
    rw [show (sm rows.length fun i => (zeroV rows.length).getD i 0 * (rows.getD i []).getD j 0) = sm rows.length fun _ => 0 from sm_congr fun i _ => by rw [rep_get, Int.zero_mul], sm_zero]
    exact Em.refl
  | @step v r c a b ih =>
    intro j hj
    exact null_less hp hr (a.on p1 hS).1 (hS _ b) (ih j hj) ((idle_null hp hr b).2.2 j hj)
/-- weights of any kind are the end of what comes of the longer rows -/
theorem ext_any {w : List Int} (hw : RowOn P rows.length w) : ∃ v, Sp P (wd + rows.length) (· ∈ extRows rows) v ∧ ∀ i, i < rows.length → v.getD (wd + i) 0 = w.getD i 0 := by
  have p1 := hp.one
  have key : ∀ k, k ≤ rows.length → ∃ v, Sp P (wd + rows.length) (· ∈ extRows rows) v ∧ ∀ i, i < rows.length → v.getD (wd + i) 0 = if i < k then w.getD i 0 else 0 := fun k => by
    induction k with
    | zero => exact fun _ => ⟨_, .zero, fun i _ => by rw [rep_get, if_neg (by omega)]⟩
    | succ k ih =>
      intro hk
      obtain ⟨v, hv, e⟩ := ih (by omega)
      have em : extRow rows k ∈ extRows rows := List.mem_map.mpr ⟨k, List.mem_range.mpr (by omega), rfl⟩
      refine ⟨_, .step (c := -(w.getD k 0)) hv em, fun i hi => ?_⟩
      have lv := (hv.on p1 (ext_len hp hr)).1
      have lr := ext_len hp hr _ em
      rw [lessV_get (by rw [lv, lr]) (by omega), ext_tail hp hr (by omega) hi, e i hi]
      have hwi := on_get hw.2 (j := i) (by rw [hw.1]; exact hi)
      by_cases h1 : i = k
      · subst h1
        rw [if_neg (by omega), if_pos rfl, if_pos (by omega)]
        have : (0 - -(w.getD i 0) * 1) = w.getD i 0 := by omega
        rw [this]
        exact emod_on hwi
      · rw [if_neg h1]
        by_cases h2 : i < k
        · rw [if_pos h2, if_pos (by omega), Int.mul_zero, Int.sub_zero]
          exact emod_on hwi
        · rw [if_neg h2, if_neg (by omega), Int.mul_zero]
          rfl
  obtain ⟨v, hv, e⟩ := key rows.length (Nat.le_refl _)
  exact ⟨v, hv, fun i hi => by rw [e i hi, if_pos hi]⟩
/-- weights that bring the rows to nothing are left as nothing by the idle sums -/
theorem idle_rest {w : List Int} (hw : RowOn P rows.length w) (h : ∀ j, j < wd → Em P 0 (sm rows.length fun i => w.getD i 0 * (rows.getD i []).getD j 0)) : restBy P (idleSums P wd rows) w = zeroV rows.length := by
  have p1 := hp.one
  obtain ⟨a, b⟩ := ww_steps hp hr
  obtain ⟨v, hv, e⟩ := ext_any hp hr hw
  have von := hv.on p1 (ext_len hp hr)
  have f0 : ∀ j, j < wd → v.getD j 0 = 0 := fun j hj => by
    have q := ext_comb hp hr hv j hj
    have q2 : Em P (sm rows.length fun i => v.getD (wd + i) 0 * (rows.getD i []).getD j 0) (sm rows.length fun i => w.getD i 0 * (rows.getD i []).getD j 0) := Em.of_eq (sm_congr fun i hi => by rw [e i hi])
    have q3 := (q.trans (q2.trans (h j hj).symm))
    have q4 := on_get von.2 (j := j) (by rw [von.1]; omega)
    exact q3.eq q4.1 q4.2 (by omega) (by omega)
  have r0 := rest_null p1 a ((b v).mpr hv)
  rw [(fr_rest hp hr a von f0).1] at r0
  have d := drop_rest hp hr (F := (withWeights P rows).filter fun r => decide (wd ≤ lead r)) (fun q hq => a.on q (List.mem_filter.mp hq).1) (fun q hq => ⟨of_decide_eq_true (List.mem_filter.mp hq).2, a.lt q (List.mem_filter.mp hq).1⟩) von
  rw [r0] at d
  have ev : v.drop wd = w := ext_getD 0 (by rw [(drop_on von).1, hw.1]) fun i hi => by
    rw [(drop_on von).1] at hi
    rw [drop_get]
    exact e i hi
  rw [ev] at d
  rw [show restBy P (idleSums P wd rows) w = restBy P (((withWeights P rows).filter fun r => decide (wd ≤ lead r)).map (List.drop wd)) w from rfl, ← d]
  refine ext_getD 0 (by simp) fun i hi => ?_
  rw [drop_get, rep_get, rep_get]
/-! how many -/
theorem ext_take {k : Nat} (hk : k < rows.length) {v : List Int} (hv : Sp P (wd + rows.length) (· ∈ (extRows rows).take k) v) : v.getD (wd + k) 0 = 0 := by
  have p1 := hp.one
  have hS : ∀ r, r ∈ (extRows rows).take k → r.length = wd + rows.length := fun r h => ext_len hp hr r (List.mem_of_mem_take h)
  induction hv with
  | zero => exact rep_get
  | @step v r c a b ih =>
    have b2 : r ∈ (List.range rows.length).map (extRow rows) := List.mem_of_mem_take b
    obtain ⟨i, hi, hi2⟩ := List.mem_iff_getElem.mp b
    rw [List.length_take, extRows_len] at hi
    have e : r = extRow rows i := by
      rw [← hi2, List.getElem_take]
      unfold extRows
      rw [List.getElem_map, List.getElem_range]
    rw [lessV_get (by rw [(a.on p1 hS).1, hS _ b]) (by rw [(a.on p1 hS).1]; omega), ih, e, ext_tail hp hr (by omega) hk, if_neg (by omega), Int.mul_zero]
    rfl
theorem ww_len : (withWeights P rows).length = rows.length := by
  have p1 := hp.one
  have hE := extRows_on p1 hr
  have hl := extRows_len rows
  have key : ∀ k, k ≤ rows.length → (stepsForm P ((extRows rows).take k)).length = k := fun k => by
    induction k with
    | zero => exact fun _ => by rw [List.take_zero]; rfl
    | succ k ih =>
      intro hk
      have hk2 : k < (extRows rows).length := by omega
      rw [steps_snoc hk2]
      have st := steps_take hp hE k
      have ek : (extRows rows)[k] = extRow rows k := by
        have q : (extRows rows)[k]? = some (extRow rows k) := by
          unfold extRows
          rw [List.getElem?_map, List.getElem?_range (by omega)]
          rfl
        rw [List.getElem?_eq_getElem hk2] at q
        exact Option.some.inj q
      have eon := hE _ (List.getElem_mem hk2)
      have hne : ¬ lead (restBy P (stepsForm P ((extRows rows).take k)) (extRows rows)[k]) = (restBy P (stepsForm P ((extRows rows).take k)) (extRows rows)[k]).length := fun z => by
        have ro := rest_on (P := P) (show 0 < P by omega) st.on eon.1 eon.2
        have z2 := lead_zero z
        rw [ro.1] at z2
        have s1 := W.null_of_rest p1 st eon z2
        have s2 := s1.bind p1 st.hS (S' := (· ∈ (extRows rows).take k)) (fun r h => ext_len hp hr r (List.mem_of_mem_take h)) (stepsForm_ok hp fun q hq => hE q (List.mem_of_mem_take hq)).2.1
        have s3 := ext_take hp hr (show k < rows.length by omega) s2
        rw [ek, ext_tail hp hr (by omega) (by omega), if_pos rfl] at s3
        cases s3
      unfold withRow
      rw [if_neg hne]
      unfold addRow
      rw [List.length_mergeSort, List.length_append, List.length_map, List.length_singleton, ih (by omega)]
  have := key rows.length (Nat.le_refl _)
  unfold withWeights
  rw [← this]
  congr 2
  rw [List.take_of_length_le (by omega)]
/-- the fronts of the longer rows' steps form -/
def fronts (P : Int) (wd : Nat) (rows : List (List Int)) : List (List Int) := ((withWeights P rows).filter fun r => !decide (wd ≤ lead r)).map (List.take wd)
theorem take_less {v r : List Int} {c : Int} (hv : v.length = wd + rows.length) (hr2 : r.length = wd + rows.length) : (lessV P v r c).take wd = lessV P (v.take wd) (r.take wd) c := by
  refine ext_getD 0 ?_ fun i hi => ?_
  · rw [List.length_take, lessV_len (by omega), lessV_len (by rw [List.length_take, List.length_take]; omega), List.length_take]
  · rw [List.length_take, lessV_len (by omega)] at hi
    rw [take_get (by omega), lessV_get (by omega) (by omega), lessV_get (by rw [List.length_take, List.length_take]; omega) (by rw [List.length_take]; omega), take_get (by omega), take_get (by omega)]
theorem take_zero : (zeroV (wd + rows.length)).take wd = zeroV wd := by
  rw [List.take_replicate]
  congr 1
  omega
theorem front_sp {v : List Int} (hv : Sp P (wd + rows.length) (· ∈ extRows rows) v) : Sp P wd (· ∈ rows) (v.take wd) := by
  have p1 := hp.one
  induction hv with
  | zero => rw [take_zero hp hr]; exact .zero
  | @step v r c a b ih =>
    rw [take_less hp hr (a.on p1 (ext_len hp hr)).1 (ext_len hp hr _ b)]
    obtain ⟨k, hk, rfl⟩ := List.mem_map.mp b
    have hk := List.mem_range.mp hk
    have e : (extRow rows k).take wd = rows.getD k [] := by
      unfold extRow
      rw [List.take_append_of_le_length (by rw [(hr _ (getD_mem (z := []) hk)).1]; omega), List.take_of_length_le (by rw [(hr _ (getD_mem (z := []) hk)).1]; omega)]
    rw [e]
    exact .step ih (getD_mem hk)
theorem front_ps {v : List Int} (hv : Sp P (wd + rows.length) (· ∈ withWeights P rows) v) : Sp P wd (· ∈ fronts P wd rows) (v.take wd) := by
  have p1 := hp.one
  obtain ⟨a, _⟩ := ww_steps hp hr
  have fl : ∀ r, r ∈ fronts P wd rows → r.length = wd := fun r h => by
    obtain ⟨x, hx, rfl⟩ := List.mem_map.mp h
    exact (take_on (a.on x (List.mem_filter.mp hx).1)).1
  induction hv with
  | zero => rw [take_zero hp hr]; exact .zero
  | @step v r c x b ih =>
    rw [take_less hp hr (x.on p1 a.hS).1 (a.hS _ b)]
    by_cases h : wd ≤ lead r
    · have e : r.take wd = zeroV wd := ext_getD 0 (by rw [(take_on (a.on r b)).1]; simp) fun i hi => by
        rw [(take_on (a.on r b)).1] at hi
        rw [take_get hi, rep_get]
        exact fr_lead hp hr (a.hS _ b) h i hi
      rw [e, less_zero p1 (ih.on p1 fl)]
      exact ih
    · exact .step ih (List.mem_map.mpr ⟨r, List.mem_filter.mpr ⟨b, by simpa using h⟩, rfl⟩)
omit hp hr in
theorem lead_take {n : Nat} {v : List Int} (hv : v.length = wd + n) (h : lead v < wd) : lead (v.take wd) = lead v := by
  obtain ⟨x, y⟩ := lead_lt (r := v) (by omega)
  refine lead_eq (by rw [List.length_take]; omega) (fun i hi => ?_) ?_
  · rw [take_get (by omega)]; exact x i hi
  · rw [take_get h]; exact y
theorem fronts_steps : Steps P wd (fronts P wd rows) := by
  obtain ⟨a, _⟩ := ww_steps hp hr
  have mem : ∀ w, w ∈ fronts P wd rows → ∃ v ∈ withWeights P rows, lead v < wd ∧ w = v.take wd ∧ lead w = lead v := fun w hw => by
    obtain ⟨v, hv, rfl⟩ := List.mem_map.mp hw
    obtain ⟨hv1, hv2⟩ := List.mem_filter.mp hv
    have hl : lead v < wd := by simpa using hv2
    exact ⟨v, hv1, hl, rfl, lead_take (a.on v hv1).1 hl⟩
  refine ⟨fun w hw => ?_, fun w hw => ?_, fun w hw => ?_, fun w hw u hu => ?_, ?_⟩
  · obtain ⟨v, hv, _, rfl, _⟩ := mem w hw
    exact take_on (a.on v hv)
  · obtain ⟨v, hv, hl, rfl, e⟩ := mem w hw
    omega
  · obtain ⟨v, hv, hl, rfl, e⟩ := mem w hw
    rw [e, take_get hl]
    exact a.one v hv
  · obtain ⟨v, hv, hl, rfl, e⟩ := mem w hw
    obtain ⟨x, hx, hl2, rfl, e2⟩ := mem u hu
    rw [e, e2]
    intro hne
    rw [take_get hl2]
    exact a.clr v hv x hx hne
  · unfold fronts
    rw [List.pairwise_map]
    refine ((a.inc.filter _).imp_of_mem fun {x y} hx hy h => ?_)
    obtain ⟨hx1, hx2⟩ := List.mem_filter.mp hx
    obtain ⟨hy1, hy2⟩ := List.mem_filter.mp hy
    rw [lead_take (a.on x hx1).1 (by simpa using hx2), lead_take (a.on y hy1).1 (by simpa using hy2)]
    exact h
theorem fronts_eq : fronts P wd rows = stepsForm P rows := by
  have p1 := hp.one
  obtain ⟨a, b⟩ := ww_steps hp hr
  obtain ⟨s, s1, s2⟩ := stepsForm_ok hp hr
  have f := fronts_steps hp hr
  have hR : ∀ r, r ∈ rows → r.length = wd := fun r h => (hr r h).1
  refine steps_uniq p1 f s (fun g hg => ?_) fun g hg => ?_
  · obtain ⟨v, hv, e⟩ := ext_lift hp hr (s1 g hg)
    have q := front_ps hp hr ((b v).mpr hv)
    have von := hv.on p1 (ext_len hp hr)
    have : v.take wd = g := ext_getD 0 (by rw [(take_on von).1, s.hS _ hg]) fun i hi => by
      rw [(take_on von).1] at hi
      rw [take_get hi]
      exact e i hi
    rwa [this] at q
  · obtain ⟨v, hv, rfl⟩ := List.mem_map.mp hg
    have hv1 := (List.mem_filter.mp hv).1
    exact (front_sp hp hr ((b v).mp (Sp.mem p1 (S := (· ∈ withWeights P rows)) hv1 (a.on v hv1)))).bind p1 hR s.hS s2
theorem idle_count : (idleSums P wd rows).length + (stepsForm P rows).length = rows.length := by
  rw [← fronts_eq hp hr, ← ww_len hp hr]
  unfold idleSums fronts
  rw [List.length_map, List.length_map]
  have := List.length_eq_countP_add_countP (fun r => decide (wd ≤ lead r)) (l := withWeights P rows)
  rw [List.countP_eq_length_filter, List.countP_eq_length_filter] at this
  rw [this]
  congr 2
  refine List.filter_congr fun x _ => ?_
  by_cases h : wd ≤ lead x
  · simp [h]
  · simp [h]
end
end W

namespace W
open PySem PySem.Spec PyProof.Rows L2 LR
def solvedD (P : Int) (wd : Nat) (rows : List (List Int)) (goal : List Int) : PyData := if lead (leftOf P rows goal) < wd then .tuple [.str "shut", tI (shutOff P rows goal)] else .tuple [.str "sum", tI (toldW P wd rows goal)]
section
variable {P : Program} {w : World} {K : PySem.W.Frag} {mg : Str → Option Value} {base : Heap}
inductive rSolved : List PyData → Res → Prop
  | mk {p : Int} {wd : Nat} {rows : List (List Int)} {goal : List Int} (hp : Prm p) (hr : RowsOn p wd rows) (hg : RowOn p wd goal) (h : wd ≤ 100) (hz : rows.length ≤ 100) : rSolved [.int p, lT rows, tI goal] (.ok (.dat (solvedD p wd rows goal)))
local macro_rules | `(tactic| wtm_at "R") => `(tactic| first
  | ((with_reducible apply rLead.mk) <;> first | (with_reducible assumption) | omega)
  | (constructor; all_goals try (wtm_at "sd")))
end
end W

namespace W
open PySem PySem.Spec PyProof.Rows L2 LR
def lrowCell (s : List Int) (size k : Nat) : Int := (cutS s (some (4 + (k : Int))) none (some (size : Int))).sum
def lrowAt (P : Int) (wd : Nat) (prev : List (List Int)) (c : Int) : List Int :=
  if c % 4 = 2 ∧ 0 < prev.length then (prev.getD (c / 8 % prev.length).toNat []).map fun x => c / 4 * x % P
  else if c % 4 = 1 ∧ 1 < prev.length then ((prev.getD (prev.length - 1) []).zip (prev.getD (prev.length - 2) [])).map fun z => (c / 4 * z.1 + z.2) % P
  else lawDigits (c / 4) P wd
def rowsGo (s : List Int) (P : Int) (size wd : Nat) : Nat → List (List Int)
  | 0 => []
  | k + 1 => rowsGo s P size wd k ++ [lrowAt P wd (rowsGo s P size wd k) (lrowCell s size k)]
def lawRows (s : List Int) (P : Int) (size wd : Nat) : List (List Int) := rowsGo s P size wd size
theorem mod_on {P : Int} (p0 : 0 < P) {α : Type} {xs : List α} {f : α → Int} : OnW P (xs.map fun x => f x % P) := fun y hy => by
  obtain ⟨z, _, rfl⟩ := List.mem_map.mp hy
  exact ⟨Int.emod_nonneg _ (by omega), Int.emod_lt_of_pos _ p0⟩
theorem lrowAt_on {P : Int} {wd : Nat} (p0 : 0 < P) {prev : List (List Int)} {c : Int} (h : RowsOn P wd prev) : RowOn P wd (lrowAt P wd prev c) := by
  unfold lrowAt
  split
  · next hc =>
    have a := Int.emod_nonneg (c / 8) (show (prev.length : Int) ≠ 0 by omega)
    have b := Int.emod_lt_of_pos (c / 8) (show 0 < (prev.length : Int) by omega)
    exact ⟨by rw [List.length_map]; exact (h _ (getD_mem (by omega))).1, mod_on p0⟩
  · split
    · next hc =>
      refine ⟨?_, mod_on p0⟩
      rw [List.length_map, List.length_zip, (h _ (getD_mem (z := []) (show prev.length - 1 < prev.length by omega))).1, (h _ (getD_mem (z := []) (show prev.length - 2 < prev.length by omega))).1, Nat.min_self]
    · exact ⟨lawDigits_len _ _ _, lawDigits_mem p0⟩
theorem rowsGo_on {s : List Int} {P : Int} {size wd : Nat} (p0 : 0 < P) : ∀ k, RowsOn P wd (rowsGo s P size wd k) ∧ (rowsGo s P size wd k).length = k
  | 0 => ⟨rows_nil, rfl⟩
  | k + 1 => by
    obtain ⟨a, b⟩ := rowsGo_on p0 k
    have q := lrowAt_on p0 (c := lrowCell s size k) a
    exact ⟨rows_append a (rows_one q.1 q.2), by rw [rowsGo, List.length_append, b]; rfl⟩
/-- what _law_sum makes -/
def sumV (P : Int) (wd : Nat) (ps : List (List Int × Int)) : List Int := ps.foldl (fun f z => (f.zip z.1).map fun q => (q.1 + z.2 * q.2) % P) (zeroV wd)
section
variable {P : Program} {w : World} {K : PySem.W.Frag} {mg : Str → Option Value} {base : Heap}
inductive rRows : List PyData → Res → Prop
  | mk {s : List Int} {p : Int} {size wd : Nat} (h : 0 < p) (h9 : p ≤ 9999) (hs : 1 ≤ size) (hs2 : size ≤ 100) (hw : wd ≤ 100) : rRows [.list (s.map .int), .int p, .int size, .int wd] (.ok (.own (.lst ((lawRows s p size wd).map tI))))
local macro_rules | `(tactic| wtm_at "R") => `(tactic| first
  | ((with_reducible apply rDigits.mk) <;> first | (with_reducible assumption) | omega)
  | (constructor; all_goals try (wtm_at "sd")))
inductive rSumV : List PyData → Res → Prop
  | mk {p : Int} {wd : Nat} {rows : List (List Int)} {ws : List Int} (h : 0 < p) (h9 : p ≤ 9999) (hr : RowsOn p wd rows) (h0 : 0 < rows.length) (hw : wd ≤ 100) (hc : ∀ c ∈ ws, -100000 ≤ c ∧ c ≤ 100000) : rSumV [.int p, lT rows, tI ws] (.ok (.dat (tI (sumV p wd (rows.zip ws)))))
theorem sumV_snoc {p : Int} {wd : Nat} {ps : List (List Int × Int)} {k : Nat} (hk : k < ps.length) : sumV p wd (ps.take (k + 1)) = ((sumV p wd (ps.take k)).zip (ps[k]).1).map fun q => (q.1 + (ps[k]).2 * q.2) % p := by
  unfold sumV
  rw [List.take_add_one, List.getElem?_eq_getElem hk, List.foldl_append]
  rfl
theorem sumV_on {p : Int} {wd : Nat} (p1 : 1 < p) : ∀ {ps : List (List Int × Int)}, (∀ z ∈ ps, z.1.length = wd) → ∀ {f : List Int}, RowOn p wd f → RowOn p wd (ps.foldl (fun f z => (f.zip z.1).map fun q => (q.1 + z.2 * q.2) % p) f)
  | [], _, _, hf => hf
  | z :: ps, h, f, hf => by
    refine sumV_on p1 (ps := ps) (fun y hy => h y (List.mem_cons_of_mem _ hy)) ⟨?_, mod_on (by omega)⟩
    rw [List.length_map, List.length_zip, hf.1, h z List.mem_cons_self, Nat.min_self]
end
end W

namespace W
open PySem PySem.Spec PyProof.Rows L2 LR
theorem count_steps {P : Int} {wd : Nat} : ∀ {F : List (List Int)}, Steps P wd F → ∀ r ∈ F, (F.map fun q => r.getD (lead q) 0).count 0 = F.length - 1
  | one :: F, h, r, hr => by
    rw [List.map_cons]
    rcases List.mem_cons.mp hr with rfl | hr
    · have hz : (F.map fun q => r.getD (lead q) 0) = List.replicate F.length 0 := by
        rw [List.eq_replicate_iff]
        refine ⟨by simp, fun y hy => ?_⟩
        obtain ⟨q, hq, rfl⟩ := List.mem_map.mp hy
        exact h.clr r List.mem_cons_self q (List.mem_cons_of_mem _ hq) (by have := h.ne q hq; omega)
      rw [h.one r List.mem_cons_self, List.count_cons_of_ne (by decide), hz, List.count_replicate_self]
      rfl
    · rw [h.clr r (List.mem_cons_of_mem _ hr) one List.mem_cons_self (by have := h.ne r hr; omega), List.count_cons_self, count_steps h.tail r hr]
      have := List.length_pos_of_mem hr
      rw [List.length_cons]
      omega
section
variable {P : Program} {w : World} {K : PySem.W.Frag} {mg : Str → Option Value} {base : Heap}
inductive rTupL : List PyData → Res → Prop
  | mk {p : Int} {n : Nat} {v : List Int} (h : RowOn p n v) (hn : n ≤ 1000) : rTupL [.int p, .int n, tI v] (.ok (.dat (.bool true)))
inductive rLLead : List PyData → Res → Prop
  | mk {r : List Int} (h : r.length ≤ 1000) : rLLead [tI r] (.ok (.dat (.int (lead r))))
inductive rLRest : List PyData → Res → Prop
  | mk {p : Int} {wd : Nat} {G : List (List Int)} {r : List Int} (h0 : 0 < p) (hG : RowsOn p wd G) (hl : r.length = wd) (ho : OnW p r) (h : wd ≤ 1000) (h9 : p ≤ 9999) (hld : ∀ q ∈ G, lead q < wd) (hz : G.length ≤ 1000) : rLRest [.int p, lT G, tI r] (.ok (.dat (tI (restBy p G r))))
local macro_rules | `(tactic| wtm_at "R") => `(tactic| first
  | ((with_reducible apply rLLead.mk) <;> first | (with_reducible assumption) | omega)
  | (constructor; all_goals try (wtm_at "sd")))
end
end W

namespace W
section
variable {P : Int} {wd : Nat} {rows : List (List Int)}
theorem sum_less {f r : List Int} {c : Int} : ((f.zip r).map fun q => (q.1 + c * q.2) % P) = lessV P f r (-c) := by
  unfold lessV
  refine List.map_congr_left fun q _ => ?_
  congr 1
  grind
theorem sumV_sp {S : List Int → Prop} : ∀ {ps : List (List Int × Int)} {f : List Int}, Sp P wd S f → (∀ z ∈ ps, S z.1) → Sp P wd S (ps.foldl (fun f z => (f.zip z.1).map fun q => (q.1 + z.2 * q.2) % P) f)
  | [], _, h, _ => h
  | z :: ps, f, h, hs => by
    refine sumV_sp (ps := ps) ?_ fun y hy => hs y (List.mem_cons_of_mem _ hy)
    show Sp P wd S ((f.zip z.1).map fun q => (q.1 + z.2 * q.2) % P)
    rw [sum_less]
    exact .step h (hs z List.mem_cons_self)
theorem sumV_mem {ws : List Int} : Sp P wd (· ∈ rows) (sumV P wd (rows.zip ws)) := sumV_sp .zero fun z hz => (List.of_mem_zip (show (z.1, z.2) ∈ rows.zip ws from hz)).1
theorem sumV_len (p1 : 1 < P) (hr : RowsOn P wd rows) {ws : List Int} : RowOn P wd (sumV P wd (rows.zip ws)) := Sp.on p1 (fun r h => (hr r h).1) sumV_mem
theorem sumV_em (hr : RowsOn P wd rows) {ws : List Int} (hl : ws.length = rows.length) {j : Nat} (hj : j < wd) : ∀ k, k ≤ rows.length → (sumV P wd ((rows.zip ws).take k)).length = wd ∧ Em P ((sumV P wd ((rows.zip ws).take k)).getD j 0) (sm k fun i => ws.getD i 0 * (rows.getD i []).getD j 0)
  | 0, _ => ⟨by simp [sumV], by
    rw [List.take_zero]
    show Em P ((zeroV wd).getD j 0) 0
    rw [rep_get]
    exact Em.refl⟩
  | k + 1, hk => by
    obtain ⟨a, b⟩ := sumV_em hr hl hj k (by omega)
    have hz : k < (rows.zip ws).length := by rw [List.length_zip]; omega
    have e1 : (rows.zip ws)[k] = (rows.getD k [], ws.getD k 0) := by
      rw [List.getElem_zip, List.getD_eq_getElem?_getD, List.getD_eq_getElem?_getD, List.getElem?_eq_getElem (by omega), List.getElem?_eq_getElem (by omega)]
      rfl
    have hk2 := (hr _ (getD_mem (z := []) (show k < rows.length by omega))).1
    rw [sumV_snoc hz, e1, sum_less]
    refine ⟨by rw [lessV_len (by rw [a, hk2]), a], (less_em a hk2 hj).trans ((b.sub Em.refl).trans (Em.of_eq ?_))⟩
    show _ = sm k _ + _
    grind
theorem sumV_all (hr : RowsOn P wd rows) {ws : List Int} (hl : ws.length = rows.length) {j : Nat} (hj : j < wd) : Em P ((sumV P wd (rows.zip ws)).getD j 0) (sm rows.length fun i => ws.getD i 0 * (rows.getD i []).getD j 0) := by
  have h := (sumV_em hr hl hj rows.length (Nat.le_refl _)).2
  rw [List.take_of_length_le (by rw [List.length_zip]; omega)] at h
  exact h
/-- the told weights bring the rows to the goal -/
theorem told_sum (hp : Prm P) (hr : RowsOn P wd rows) {goal : List Int} (hg : RowOn P wd goal) (hl : wd ≤ lead (leftOf P rows goal)) : sumV P wd (rows.zip (toldW P wd rows goal)) = goal := by
  have p1 := hp.one
  obtain ⟨a, b⟩ := told_ok hp hr hg hl
  exact vext p1 (sumV_len p1 hr) hg fun j hj => (sumV_all hr a.1 hj).trans (b j hj).symm
/-- weights that bring the rows to nothing -/
theorem null_sum (hp : Prm P) (hr : RowsOn P wd rows) {ws : List Int} (hl : ws.length = rows.length) (h : ∀ j, j < wd → Em P 0 (sm rows.length fun i => ws.getD i 0 * (rows.getD i []).getD j 0)) : sumV P wd (rows.zip ws) = zeroV wd := by
  have p1 := hp.one
  exact vext p1 (sumV_len p1 hr) (zero_on p1) fun j hj => (sumV_all hr hl hj).trans (by rw [rep_get]; exact (h j hj).symm)
end
end W

namespace W
/-! hulls -/
def orbV (P : Int) (t : List (List Int)) (s : List Int) : Nat → List Int
  | 0 => s
  | i + 1 => turned P t (orbV P t s i)
def withOne (ss : List (List Int)) : List (List Int) := ss.map fun s => s ++ [1]
def hStands (P : Int) (t : List (List Int)) (s : List Int) (k : Nat) : List (List Int) := (List.range (k + 1)).map (orbV P t s)
/-- whether the next stand is no sum of the first k + 1 -/
def hShut (P : Int) (n : Nat) (t : List (List Int)) (s : List Int) (k : Nat) : Bool := decide (lead (leftOf P (withOne (hStands P t s k)) (orbV P t s (k + 1) ++ [1])) < n + 1)
section
variable {P : Int} {n : Nat} {t : List (List Int)} (hp : Prm P)
include hp
theorem one_on {s : List Int} (h : RowOn P n s) : RowOn P (n + 1) (s ++ [1]) := by
  have p1 := hp.one
  refine ⟨by rw [List.length_append, h.1]; rfl, fun y hy => ?_⟩
  rcases List.mem_append.mp hy with z | z
  · exact h.2 y z
  · rw [List.mem_singleton.mp z]; omega
theorem orb_on (h : Tbl P n t) {s : List Int} (hs : RowOn P n s) : ∀ i, RowOn P n (orbV P t s i)
  | 0 => hs
  | i + 1 => by
    have p1 := hp.one
    exact ⟨by show (turned P t _).length = n; rw [turned_len, h.len], turned_on (by omega)⟩
theorem hst_on (h : Tbl P n t) {s : List Int} (hs : RowOn P n s) (k : Nat) : RowsOn P (n + 1) (withOne (hStands P t s k)) := fun r hr => by
  obtain ⟨x, hx, rfl⟩ := List.mem_map.mp hr
  obtain ⟨i, _, rfl⟩ := List.mem_map.mp hx
  exact one_on hp (orb_on hp h hs i)
omit hp in
theorem hst_succ {s : List Int} (k : Nat) : withOne (hStands P t s (k + 1)) = withOne (hStands P t s k) ++ [orbV P t s (k + 1) ++ [1]] := by
  unfold withOne hStands
  rw [List.range_succ (n := k + 1), List.map_append, List.map_append]
  rfl
omit hp in
theorem steps_le {wd : Nat} {F : List (List Int)} (h : Steps P wd F) : F.length ≤ wd := by
  have up : ∀ i (hi : i < F.length), i ≤ lead F[i] := fun i => by
    induction i with
    | zero => intro _; omega
    | succ i ih =>
      intro hi
      have a := ih (by omega)
      have b := List.pairwise_iff_getElem.mp h.inc i (i + 1) (by omega) hi (by omega)
      omega
  rcases Nat.eq_zero_or_pos F.length with z | z
  · omega
  · have a := up (F.length - 1) (by omega)
    have b := h.lt _ (List.getElem_mem (show F.length - 1 < F.length by omega))
    omega
theorem hull_len (h : Tbl P n t) {s : List Int} (hs : RowOn P n s) : ∀ k, (∀ i, i < k → hShut P n t s i = true) → (stepsForm P (withOne (hStands P t s k))).length = k + 1
  | 0, _ => by
    have p1 := hp.one
    have o := one_on hp hs
    have e : stepsForm P (withOne (hStands P t s 0)) = withRow P [] (s ++ [1]) := rfl
    rw [e]
    unfold withRow
    rw [if_neg]
    · unfold addRow
      rw [List.length_mergeSort]
      rfl
    · intro z
      have z2 := lead_zero z
      have z3 := congrArg (fun l => l.getD n 0) z2
      have q : (s ++ [(1 : Int)]).getD n 0 = 1 := by
        rw [List.getD_eq_getElem?_getD, List.getElem?_append_right (by rw [hs.1]; exact Nat.le_refl _)]
        simp [hs.1]
      rw [show restBy P [] (s ++ [1]) = s ++ [1] from rfl] at z3
      simp only [rep_get] at z3
      rw [q] at z3
      cases z3
  | k + 1, hall => by
    have ih := hull_len h hs k fun i hi => hall i (by omega)
    have hk := of_decide_eq_true (hall k (by omega))
    have on := hst_on hp h hs k
    have go := one_on hp (orb_on hp h hs (k + 1))
    have lt := shut_in hp on go hk
    have st := (stepsForm_ok hp on).1
    have ro := rest_on (P := P) (show 0 < P by have := hp.lo; omega) st.on go.1 go.2
    have e : stepsForm P (withOne (hStands P t s (k + 1))) = withRow P (stepsForm P (withOne (hStands P t s k))) (orbV P t s (k + 1) ++ [1]) := by
      rw [hst_succ]
      unfold stepsForm
      rw [List.foldl_append]
      rfl
    rw [e]
    unfold withRow
    rw [if_neg (by rw [ro.1]; omega)]
    unfold addRow
    rw [List.length_mergeSort, List.length_append, List.length_map, ih]
    rfl
/-- how many stands -/
theorem hull_stop (h : Tbl P n t) {s : List Int} (hs : RowOn P n s) : ∃ k, k ≤ n ∧ (∀ i, i < k → hShut P n t s i = true) ∧ hShut P n t s k = false := by
  by_cases hall : ∀ i, i ≤ n → hShut P n t s i = true
  · have a := hull_len hp h hs (n + 1) fun i hi => hall i (by omega)
    have b := steps_le (stepsForm_ok hp (hst_on hp h hs (n + 1))).1
    omega
  · have : ∃ m, m ≤ n ∧ hShut P n t s m = false := Classical.byContradiction fun no => hall fun i hi => by
      cases e : hShut P n t s i with
      | true => rfl
      | false => exact absurd ⟨i, hi, e⟩ no
    obtain ⟨m, hm, e⟩ := this
    obtain ⟨k, a, b, c⟩ := first_not (hShut P n t s) m e
    exact ⟨k, by omega, b, c⟩
end
end W

namespace W
/-! hulls: later stands, told weights, shut forms -/
theorem sm_front {g : Nat → Int} : ∀ n, sm (n + 1) g = g 0 + sm n fun i => g (i + 1)
  | 0 => by show sm 0 g + g 0 = g 0 + 0; show 0 + g 0 = _; omega
  | n + 1 => by
    show sm (n + 1) g + g (n + 1) = g 0 + (sm n (fun i => g (i + 1)) + g (n + 1))
    rw [sm_front n, Int.add_assoc]
theorem sum_sm : ∀ l : List Int, l.sum = sm l.length fun i => l.getD i 0
  | [] => rfl
  | x :: l => by
    rw [List.sum_cons, List.length_cons, sm_front, sum_sm l]
    rfl
def liftT (P : Int) (n : Nat) (t : List (List Int)) (r : List Int) : List Int := ((List.range n).map fun k => dotV (n + 1) (t.getD k []) r % P) ++ [r.getD n 0]
theorem wo_len (ss : List (List Int)) : (withOne ss).length = ss.length := by simp [withOne]
theorem last_get {n : Nat} {s : List Int} {c : Int} (hs : s.length = n) : (s ++ [c]).getD n 0 = c := by
  rw [List.getD_eq_getElem?_getD, List.getElem?_append_right (by omega)]
  simp [hs]
theorem head_get {n j : Nat} {s : List Int} {c : Int} (hs : s.length = n) (hj : j < n) : (s ++ [c]).getD j 0 = s.getD j 0 := by
  rw [List.getD_eq_getElem?_getD, List.getD_eq_getElem?_getD, List.getElem?_append_left (by omega)]
theorem wo_get {ss : List (List Int)} {i : Nat} (h : i < ss.length) : (withOne ss).getD i [] = ss.getD i [] ++ [1] := getD_map _ [] [] h
theorem dot_one {P : Int} {n : Nat} {f s : List Int} (hs : s.length = n) : worth P f s = dotV (n + 1) f (s ++ [1]) % P := by
  rw [worth_eq hs]
  show _ = (sm n (fun j => f.getD j 0 * (s ++ [(1 : Int)]).getD j 0) + f.getD n 0 * (s ++ [(1 : Int)]).getD n 0) % P
  rw [last_get hs, Int.mul_one, Int.add_comm, show (sm n fun j => f.getD j 0 * (s ++ [(1 : Int)]).getD j 0) = sm n fun j => f.getD j 0 * s.getD j 0 from sm_congr fun j hj => by rw [head_get hs hj]]
section
variable {P : Int} {n : Nat} {t : List (List Int)}
theorem lift_len {r : List Int} : (liftT P n t r).length = n + 1 := by simp [liftT]
theorem lift_get {r : List Int} {j : Nat} (hj : j < n) : (liftT P n t r).getD j 0 = dotV (n + 1) (t.getD j []) r % P := by
  unfold liftT
  rw [head_get (by simp) hj]
  exact getD_rangeMap _ 0 hj
theorem lift_last {r : List Int} : (liftT P n t r).getD n 0 = r.getD n 0 := by
  unfold liftT
  exact last_get (by simp)
theorem lift_on (p0 : 0 < P) {r : List Int} (hr : RowOn P (n + 1) r) : RowOn P (n + 1) (liftT P n t r) := by
  refine ⟨lift_len, fun y hy => ?_⟩
  unfold liftT at hy
  rcases List.mem_append.mp hy with z | z
  · obtain ⟨k, _, rfl⟩ := List.mem_map.mp z
    exact ⟨Int.emod_nonneg _ (by omega), Int.emod_lt_of_pos _ p0⟩
  · rw [List.mem_singleton.mp z]
    exact hr.2 _ (getD_mem (by rw [hr.1]; omega))
theorem lift_one (h : Tbl P n t) {s : List Int} (hs : s.length = n) : liftT P n t (s ++ [1]) = turned P t s ++ [1] := by
  have tl : (turned P t s).length = n := by rw [turned_len, h.len]
  refine ext_getD 0 (by rw [lift_len, List.length_append, tl]; rfl) fun j hj => ?_
  rw [lift_len] at hj
  by_cases hjn : j < n
  · rw [lift_get hjn, head_get tl hjn, turned_get (by rw [h.len]; exact hjn), dot_one hs]
  · have : j = n := by omega
    subst this
    rw [lift_last, last_get hs, last_get tl]
theorem lift_less (p1 : 1 < P) {v r : List Int} {c : Int} (hv : RowOn P (n + 1) v) (hr : RowOn P (n + 1) r) : liftT P n t (lessV P v r c) = lessV P (liftT P n t v) (liftT P n t r) c := by
  have p0 : 0 < P := by omega
  have a := lift_on (t := t) p0 hv
  have b := lift_on (t := t) p0 hr
  have lo := less_on (c := c) p1 hv.1 hr.1
  refine vext p1 (lift_on p0 lo) (less_on p1 a.1 b.1) fun j hj => ?_
  refine Em.trans ?_ (less_em a.1 b.1 hj).symm
  by_cases hjn : j < n
  · rw [lift_get hjn, lift_get hjn, lift_get hjn]
    exact (Em.mod.trans (dot_less hv.1 hr.1)).trans (Em.mod.symm.sub (Em.refl.mul Em.mod.symm))
  · have : j = n := by omega
    subst this
    rw [lift_last, lift_last, lift_last]
    exact less_em hv.1 hr.1 (by omega)
theorem lift_zero : liftT P n t (zeroV (n + 1)) = zeroV (n + 1) := by
  refine ext_getD 0 (by rw [lift_len]; simp) fun j hj => ?_
  rw [lift_len] at hj
  rw [rep_get]
  by_cases hjn : j < n
  · rw [lift_get hjn, dot_zero, Int.zero_emod]
  · have : j = n := by omega
    subst this
    rw [lift_last, rep_get]
theorem lift_sp (p1 : 1 < P) {S S' : List Int → Prop} (hS : ∀ r, S r → RowOn P (n + 1) r) (hS' : ∀ r, S' r → r.length = n + 1) (h : ∀ r, S r → Sp P (n + 1) S' (liftT P n t r)) {v : List Int} (hv : Sp P (n + 1) S v) : Sp P (n + 1) S' (liftT P n t v) := by
  induction hv with
  | zero => rw [lift_zero]; exact .zero
  | step a b ih =>
    rw [lift_less p1 (a.on p1 fun r hr => (hS r hr).1) (hS _ b)]
    exact ih.less p1 hS' (h _ b)
end
section
variable {P : Int} {n k : Nat} {t : List (List Int)} {s : List Int} (hp : Prm P) (h : Tbl P n t) (hs : RowOn P n s) (h2 : hShut P n t s k = false)
include hp h hs h2
theorem hst_get {i : Nat} (hi : i < k + 1) : (hStands P t s k).getD i [] = orbV P t s i := getD_rangeMap _ [] hi
theorem hst_mem {i : Nat} (hi : i < k + 1) : orbV P t s i ++ [1] ∈ withOne (hStands P t s k) := List.mem_map.mpr ⟨_, List.mem_map.mpr ⟨i, List.mem_range.mpr hi, rfl⟩, rfl⟩
theorem next_sp : Sp P (n + 1) (· ∈ withOne (hStands P t s k)) (orbV P t s (k + 1) ++ [1]) := by
  have hr := hst_on hp h hs k
  have q := told_sum hp hr (one_on hp (orb_on hp h hs (k + 1))) (Nat.le_of_not_lt (of_decide_eq_false h2))
  rw [← q]
  exact sumV_mem
/-- each later stand is a sum of the hull's -/
theorem orb_sp : ∀ m, Sp P (n + 1) (· ∈ withOne (hStands P t s k)) (orbV P t s m ++ [1])
  | 0 => Sp.mem hp.one (S := (· ∈ withOne (hStands P t s k))) (hst_mem hp h hs h2 (i := 0) (by omega)) (one_on hp hs)
  | m + 1 => by
    have hr := hst_on hp h hs k
    have e : orbV P t s (m + 1) ++ [1] = liftT P n t (orbV P t s m ++ [1]) := (lift_one h (orb_on hp h hs m).1).symm
    rw [e]
    refine lift_sp hp.one hr (fun r hr2 => (hr r hr2).1) (fun r hr2 => ?_) (orb_sp m)
    obtain ⟨x, hx, rfl⟩ := List.mem_map.mp hr2
    obtain ⟨i, hi, rfl⟩ := List.mem_map.mp hx
    have hi := List.mem_range.mp hi
    rw [lift_one h (orb_on hp h hs i).1]
    show Sp P (n + 1) _ (orbV P t s (i + 1) ++ [1])
    by_cases hik : i < k
    · exact Sp.mem hp.one (S := (· ∈ withOne (hStands P t s k))) (hst_mem hp h hs h2 (i := i + 1) (by omega)) (one_on hp (orb_on hp h hs (i + 1)))
    · have : i = k := by omega
      subst this
      exact next_sp hp h hs h2
omit h2 in
theorem orb_pw (hn : 1 ≤ n) : ∀ m, turned P (pw P n t m) s = orbV P t s m
  | 0 => go_zero hp.one hn h hs.1 hs.2
  | m + 1 => by
    rw [go_add hp.one hn h hs.1 m 1, go_one hp.one hn h, orb_pw hn m]
    rfl
end
section
variable {P : Int} {n : Nat} {ss : List (List Int)} (hp : Prm P) (hr : RowsOn P (n + 1) (withOne ss)) (hss : ∀ q ∈ ss, q.length = n)
include hp hr hss
/-- weights by which rows with 1 come to a goal with 1 -/
theorem told_one {g : List Int} (hg : RowOn P n g) (hl : n + 1 ≤ lead (leftOf P (withOne ss) (g ++ [1]))) : RowOn P ss.length (toldW P (n + 1) (withOne ss) (g ++ [1])) ∧ (toldW P (n + 1) (withOne ss) (g ++ [1])).sum % P = 1 ∧ ∀ x, x < n → (((toldW P (n + 1) (withOne ss) (g ++ [1])).zip ss).map fun z => z.1 * z.2.getD x 0).sum % P = g.getD x 0 := by
  have p1 := hp.one
  obtain ⟨a, b⟩ := told_ok hp hr (one_on hp hg) hl
  rw [wo_len] at a b
  generalize toldW P (n + 1) (withOne ss) (g ++ [1]) = w at *
  have e : ∀ j, j < ss.length → ∀ x, x < n → ((withOne ss).getD j []).getD x 0 = (ss.getD j []).getD x 0 := fun j hj x hx => by
    rw [wo_get hj, head_get (hss _ (getD_mem hj)) hx]
  refine ⟨a, ?_, fun x hx => ?_⟩
  · have q := b n (by omega)
    rw [last_get hg.1, show (sm ss.length fun i => w.getD i 0 * ((withOne ss).getD i []).getD n 0) = sm ss.length fun i => w.getD i 0 from sm_congr fun i hi => by rw [wo_get hi, last_get (hss _ (getD_mem hi)), Int.mul_one], ← a.1, ← sum_sm] at q
    have q2 : (1 : Int) % P = w.sum % P := q
    rw [← q2]
    exact Int.emod_eq_of_lt (by omega) p1
  · have q := b x (by omega)
    rw [head_get hg.1 hx, show (sm ss.length fun i => w.getD i 0 * ((withOne ss).getD i []).getD x 0) = sm ss.length fun i => w.getD i 0 * (ss.getD i []).getD x 0 from sm_congr fun i hi => by rw [e i hi x hx]] at q
    have z : ((w.zip ss).map fun z => z.1 * z.2.getD x 0).sum = sm ss.length fun i => w.getD i 0 * (ss.getD i []).getD x 0 := by
      rw [sum_sm]
      have el : ((w.zip ss).map fun z => z.1 * z.2.getD x 0).length = ss.length := by rw [List.length_map, List.length_zip, a.1]; omega
      rw [el]
      refine sm_congr fun i hi => ?_
      rw [List.getD_eq_getElem?_getD, List.getD_eq_getElem?_getD, List.getD_eq_getElem?_getD (l := ss), List.getElem?_map, List.getElem?_eq_getElem (by rw [List.length_zip, a.1]; omega), List.getElem?_eq_getElem (show i < w.length by rw [a.1]; exact hi), List.getElem?_eq_getElem hi, List.getElem_zip]
      rfl
    rw [z]
    have q2 : g.getD x 0 % P = (sm ss.length fun i => w.getD i 0 * (ss.getD i []).getD x 0) % P := q
    rw [← q2]
    exact emod_on (hg.2 _ (getD_mem (by rw [hg.1]; exact hx)))
end
end W

namespace W
open LR
/-! primes of a number -/
/-- no number from 2 on whose square is not above it divides it -/
def PrimeI (q : Int) : Prop := 2 ≤ q ∧ ∀ d, 2 ≤ d → d * d ≤ q → q % d ≠ 0
def divs (n q : Int) : Nat → Int
  | 0 => n
  | i + 1 => divs n q i / q
def strip (q : Int) : Nat → Int → Int
  | 0, n => n
  | f + 1, n => if n % q = 0 then strip q f (n / q) else n
abbrev stripI (q n : Int) : Int := strip q n.toNat n
theorem divs_front {n q : Int} : ∀ i, divs n q (i + 1) = divs (n / q) q i
  | 0 => rfl
  | i + 1 => by
    show divs n q (i + 1) / q = divs (n / q) q i / q
    rw [divs_front i]
theorem div_small {n q : Int} (hn : 1 ≤ n) (hq : 2 ≤ q) (h : n % q = 0) : 1 ≤ n / q ∧ n / q < n ∧ n = q * (n / q) := by
  obtain ⟨k, rfl⟩ := Int.dvd_of_emod_eq_zero h
  rw [Int.mul_ediv_cancel_left _ (by omega)]
  have k1 : 1 ≤ k := by
    refine Classical.byContradiction fun hk => ?_
    have := Int.mul_le_mul_of_nonneg_left (show k ≤ 0 by omega) (show 0 ≤ q by omega)
    omega
  have := Int.mul_le_mul_of_nonneg_right hq (show 0 ≤ k by omega)
  exact ⟨k1, by omega, rfl⟩
theorem strip_ok {q : Int} (hq : 2 ≤ q) : ∀ (f : Nat) (n : Int), 1 ≤ n → n.toNat ≤ f → ∃ k, (∀ i, i < k → divs n q i % q = 0) ∧ divs n q k % q ≠ 0 ∧ strip q f n = divs n q k ∧ (∀ i, i ≤ k → 1 ≤ divs n q i ∧ divs n q i ≤ n) ∧ divs n q k ∣ n
  | 0, n, h, h2 => by omega
  | f + 1, n, h, h2 => by
    by_cases hd : n % q = 0
    · obtain ⟨a, b, c⟩ := div_small h hq hd
      obtain ⟨k, k1, k2, k3, k4, k5⟩ := strip_ok hq f (n / q) a (by omega)
      refine ⟨k + 1, fun i hi => ?_, by rw [divs_front]; exact k2, ?_, fun i hi => ?_, ?_⟩
      · cases i with
        | zero => exact hd
        | succ i => rw [divs_front]; exact k1 i (by omega)
      · rw [divs_front, ← k3]
        show (if n % q = 0 then _ else _) = _
        rw [if_pos hd]
      · cases i with
        | zero => exact ⟨h, Int.le_refl _⟩
        | succ i =>
          rw [divs_front]
          have := k4 i (by omega)
          omega
      · rw [divs_front]
        exact Int.dvd_trans k5 ⟨q, by rw [Int.mul_comm]; exact c⟩
    · refine ⟨0, fun i hi => by omega, hd, ?_, fun i hi => ?_, Int.dvd_refl _⟩
      · show (if n % q = 0 then _ else _) = _
        rw [if_neg hd]
        rfl
      · have : i = 0 := by omega
        subst this
        exact ⟨h, Int.le_refl _⟩
theorem stripI_ok {q n : Int} (hq : 2 ≤ q) (hn : 1 ≤ n) : ∃ k, (∀ i, i < k → divs n q i % q = 0) ∧ divs n q k % q ≠ 0 ∧ stripI q n = divs n q k ∧ (∀ i, i ≤ k → 1 ≤ divs n q i ∧ divs n q i ≤ n) ∧ divs n q k ∣ n := strip_ok hq n.toNat n hn (Nat.le_refl _)
theorem stripI_facts {q n : Int} (hq : 2 ≤ q) (hn : 1 ≤ n) : 1 ≤ stripI q n ∧ stripI q n ≤ n ∧ stripI q n ∣ n ∧ stripI q n % q ≠ 0 := by
  obtain ⟨k, _, k2, k3, k4, k5⟩ := stripI_ok hq hn
  rw [k3]
  exact ⟨(k4 k (Nat.le_refl _)).1, (k4 k (Nat.le_refl _)).2, k5, k2⟩
theorem stripI_self {q : Int} (hq : 2 ≤ q) : stripI q q = 1 := by
  have e : q.toNat = (q.toNat - 2) + 1 + 1 := by omega
  unfold stripI
  rw [e]
  show (if q % q = 0 then strip q (q.toNat - 2 + 1) (q / q) else q) = 1
  rw [if_pos Int.emod_self, Int.ediv_self (by omega)]
  show (if 1 % q = 0 then _ else _) = (1 : Int)
  rw [if_neg (by rw [Int.emod_eq_of_lt (by omega) (by omega)]; decide)]
/-- the list tells the primes of n, from lo on -/
def PChain : Int → List Int → Int → Prop
  | n, [], _ => n = 1
  | n, q :: l, lo => lo ≤ q ∧ n % q = 0 ∧ PrimeI q ∧ PChain (stripI q n) l (q + 1)
theorem chain_mono : ∀ {l : List Int} {n lo lo' : Int}, lo' ≤ lo → PChain n l lo → PChain n l lo'
  | [], _, _, _, _, h => h
  | q :: l, n, lo, lo', hl, h => by
    rw [PChain] at h ⊢
    exact ⟨by omega, h.2⟩
/-! the program's walk -/
def nextBy (b : Int) : Int := b + 1 + if 2 < b then 1 else 0
def pst (n : Int) : Nat → Int × Int × List Int
  | 0 => (n, 2, [])
  | i + 1 => (if (pst n i).1 % (pst n i).2.1 = 0 then stripI (pst n i).2.1 (pst n i).1 else (pst n i).1, nextBy (pst n i).2.1, if (pst n i).1 % (pst n i).2.1 = 0 then (pst n i).2.2 ++ [(pst n i).2.1] else (pst n i).2.2)
def pgo (s : Int × Int × List Int) : Bool := decide (s.2.1 * s.2.1 ≤ s.1)
def pfin (s : Int × Int × List Int) : List Int := if 1 < s.1 then s.2.2 ++ [s.1] else s.2.2
structure PInv (n : Int) (i : Nat) (s : Int × Int × List Int) : Prop where
  lo : 1 ≤ s.1
  hi : s.1 ≤ n
  by2 : (i : Int) + 2 ≤ s.2.1
  by9 : s.2.1 ≤ 2 * (i : Int) + 2
  odd : s.2.1 = 2 ∨ (3 ≤ s.2.1 ∧ s.2.1 % 2 = 1)
  no : ∀ d, 2 ≤ d → d < s.2.1 → s.1 % d ≠ 0
  ch : ∀ l, PChain s.1 l s.2.1 → PChain n (s.2.2 ++ l) 2
  len : s.2.2.length ≤ i
theorem pst_inv {n : Int} (hn : 1 ≤ n) : ∀ i, (∀ j, j < i → pgo (pst n j) = true) → PInv n i (pst n i)
  | 0, _ => ⟨hn, Int.le_refl _, by show (0 : Int) + 2 ≤ 2; decide, by show (2 : Int) ≤ 2 * 0 + 2; decide, .inl rfl, fun d h1 h2 => by have : d < 2 := h2; omega, fun l h => h, Nat.le_refl _⟩
  | i + 1, hg => by
    have I := pst_inv hn i fun j hj => hg j (by omega)
    have b2 : 2 ≤ (pst n i).2.1 := by have := I.by2; omega
    obtain ⟨f1, f2, f3, f4⟩ := stripI_facts b2 I.lo
    have nx : (pst n i).2.1 + 1 ≤ nextBy (pst n i).2.1 ∧ nextBy (pst n i).2.1 ≤ (pst n i).2.1 + 2 := by unfold nextBy; split <;> omega
    have nn : ∀ m, m ∣ (pst n i).1 → m % (pst n i).2.1 ≠ 0 → ∀ d, 2 ≤ d → d < nextBy (pst n i).2.1 → m % d ≠ 0 := fun m hm hb d d2 dn hd => by
      have dvd : d ∣ (pst n i).1 := Int.dvd_trans (Int.dvd_of_emod_eq_zero hd) hm
      rcases Int.lt_trichotomy d (pst n i).2.1 with z | z | z
      · exact I.no d d2 z (Int.emod_eq_zero_of_dvd dvd)
      · rw [z] at hd; exact hb hd
      · have d3 : 2 < (pst n i).2.1 := by
          unfold nextBy at dn
          split at dn <;> omega
        have od : (pst n i).2.1 % 2 = 1 := by rcases I.odd with q | q <;> omega
        have e : d = (pst n i).2.1 + 1 := by omega
        have dv2 : (2 : Int) ∣ d := by omega
        exact I.no 2 (by omega) d3 (Int.emod_eq_zero_of_dvd (Int.dvd_trans dv2 dvd))
    have pr : (pst n i).1 % (pst n i).2.1 = 0 → PrimeI (pst n i).2.1 := fun h0 => ⟨b2, fun d d2 dd hd => by
      have dl : d < (pst n i).2.1 := by
        refine Classical.byContradiction fun hge => ?_
        have := Int.mul_le_mul_of_nonneg_right (show 2 ≤ d by omega) (show 0 ≤ d by omega)
        omega
      exact I.no d d2 dl (Int.emod_eq_zero_of_dvd (Int.dvd_trans (Int.dvd_of_emod_eq_zero hd) (Int.dvd_of_emod_eq_zero h0)))⟩
    have odd2 : nextBy (pst n i).2.1 = 2 ∨ (3 ≤ nextBy (pst n i).2.1 ∧ nextBy (pst n i).2.1 % 2 = 1) := by
      unfold nextBy
      rcases I.odd with q | q
      · rw [q]; exact .inr (by decide)
      · rw [if_pos (by omega)]; omega
    have i2 := I.by2
    have i9 := I.by9
    by_cases h0 : (pst n i).1 % (pst n i).2.1 = 0
    · have e : pst n (i + 1) = (stripI (pst n i).2.1 (pst n i).1, nextBy (pst n i).2.1, (pst n i).2.2 ++ [(pst n i).2.1]) := by
        show (_, _, _) = _
        rw [if_pos h0, if_pos h0]
      rw [e]
      refine ⟨f1, Int.le_trans f2 I.hi, by show ((i + 1 : Nat) : Int) + 2 ≤ nextBy _; omega, by show nextBy _ ≤ 2 * ((i + 1 : Nat) : Int) + 2; omega, odd2, nn _ f3 f4, fun l hl => ?_, by simp; have := I.len; omega⟩
      show PChain n ((pst n i).2.2 ++ [(pst n i).2.1] ++ l) 2
      rw [List.append_assoc]
      refine I.ch _ ?_
      show PChain _ ((pst n i).2.1 :: l) _
      rw [PChain]
      exact ⟨Int.le_refl _, h0, pr h0, chain_mono nx.1 hl⟩
    · have e : pst n (i + 1) = ((pst n i).1, nextBy (pst n i).2.1, (pst n i).2.2) := by
        show (_, _, _) = _
        rw [if_neg h0, if_neg h0]
      rw [e]
      exact ⟨I.lo, I.hi, by show ((i + 1 : Nat) : Int) + 2 ≤ nextBy _; omega, by show nextBy _ ≤ 2 * ((i + 1 : Nat) : Int) + 2; omega, odd2, nn _ (Int.dvd_refl _) h0, fun l hl => I.ch l (chain_mono (show (pst n i).2.1 ≤ nextBy (pst n i).2.1 by omega) hl), by have := I.len; show (pst n i).2.2.length ≤ i + 1; omega⟩
theorem pst_stop {n : Int} (hn : 1 ≤ n) (h9 : n ≤ 1000000000) : ∃ k, k ≤ 40000 ∧ (∀ i, i < k → pgo (pst n i) = true) ∧ pgo (pst n k) = false := by
  by_cases hall : ∀ i, i ≤ 40000 → pgo (pst n i) = true
  · have I := pst_inv hn 40000 fun j hj => hall j (by omega)
    have g := of_decide_eq_true (hall 40000 (Nat.le_refl _))
    have a := I.by2
    have b := I.hi
    have := Int.mul_le_mul a a (by omega) (by omega)
    omega
  · have : ∃ m, m ≤ 40000 ∧ pgo (pst n m) = false := Classical.byContradiction fun no => hall fun i hi => by
      cases e : pgo (pst n i) with
      | true => rfl
      | false => exact absurd ⟨i, hi, e⟩ no
    obtain ⟨m, hm, e⟩ := this
    obtain ⟨k, a, b, c⟩ := first_not (fun i => pgo (pst n i)) m e
    exact ⟨k, by omega, b, c⟩
theorem primes_chain {n : Int} (hn : 1 ≤ n) {k : Nat} (h1 : ∀ i, i < k → pgo (pst n i) = true) (h2 : pgo (pst n k) = false) : PChain n (pfin (pst n k)) 2 := by
  have I := pst_inv hn k h1
  have g := of_decide_eq_false h2
  unfold pfin
  split
  · next h =>
    refine I.ch _ ?_
    have lo : (pst n k).2.1 ≤ (pst n k).1 := by
      refine Classical.byContradiction fun hl => ?_
      exact I.no (pst n k).1 (by omega) (by omega) Int.emod_self
    rw [PChain, PChain]
    refine ⟨lo, Int.emod_self, ⟨by omega, fun d d2 dd => ?_⟩, stripI_self (by omega)⟩
    have dl : d < (pst n k).2.1 := by
      refine Classical.byContradiction fun hge => ?_
      have b2 := I.by2
      have := Int.mul_le_mul (show (pst n k).2.1 ≤ d by omega) (show (pst n k).2.1 ≤ d by omega) (by omega) (by omega)
      omega
    exact I.no d d2 dl
  · next h =>
    have := I.ch [] (by rw [PChain]; have := I.lo; omega)
    rwa [List.append_nil] at this
/-! what a chain tells -/
theorem chain_at : ∀ {l : List Int} {n lo : Int}, PChain n l lo → 1 ≤ n → 2 ≤ lo → ∀ i (h : i < l.length), (∀ j (hj : j < i), l[j] < l[i]) ∧ lo ≤ l[i] ∧ 1 ≤ (l.take i).foldl (fun m q => stripI q m) n ∧ (l.take i).foldl (fun m q => stripI q m) n ≤ n ∧ (l.take i).foldl (fun m q => stripI q m) n % l[i] = 0 ∧ PrimeI l[i] ∧ l[i] ≤ n
  | q :: l, n, lo, h, hn, hl, 0, hi => by
    rw [PChain] at h
    refine ⟨fun j hj => by omega, h.1, hn, Int.le_refl _, h.2.1, h.2.2.1, ?_⟩
    exact Int.le_of_dvd (by omega) (Int.dvd_of_emod_eq_zero h.2.1)
  | q :: l, n, lo, h, hn, hl, i + 1, hi => by
    rw [PChain] at h
    have q2 := h.2.2.1.1
    obtain ⟨f1, f2, f3, f4⟩ := stripI_facts q2 hn
    have hi2 : i < l.length := by simpa using hi
    obtain ⟨a, b, c, d, e, f, g⟩ := chain_at h.2.2.2 f1 (by omega) i hi2
    refine ⟨fun j hj => ?_, by show lo ≤ l[i]; omega, c, Int.le_trans d f2, e, f, Int.le_trans g f2⟩
    cases j with
    | zero => show q < l[i]; omega
    | succ j => exact a j (by omega)
theorem chain_end : ∀ {l : List Int} {n lo : Int}, PChain n l lo → l.foldl (fun m q => stripI q m) n = 1
  | [], n, lo, h => h
  | q :: l, n, lo, h => by
    rw [PChain] at h
    show (l.foldl (fun m q => stripI q m) (stripI q n)) = 1
    exact chain_end h.2.2.2
/-! the primes told -/
noncomputable def stopAt (n : Int) : Nat := Classical.epsilon fun k => k ≤ 40000 ∧ (∀ i, i < k → pgo (pst n i) = true) ∧ pgo (pst n k) = false
noncomputable def primesOf (n : Int) : List Int := pfin (pst n (stopAt n))
theorem stopAt_ok {n : Int} (hn : 1 ≤ n) (h9 : n ≤ 1000000000) : stopAt n ≤ 40000 ∧ (∀ i, i < stopAt n → pgo (pst n i) = true) ∧ pgo (pst n (stopAt n)) = false := Classical.epsilon_spec (pst_stop hn h9)
theorem primesOf_chain {n : Int} (hn : 1 ≤ n) (h9 : n ≤ 1000000000) : PChain n (primesOf n) 2 := primes_chain hn (stopAt_ok hn h9).2.1 (stopAt_ok hn h9).2.2
theorem primesOf_len {n : Int} (hn : 1 ≤ n) (h9 : n ≤ 1000000000) : (primesOf n).length ≤ 40001 := by
  have I := pst_inv hn (stopAt n) (stopAt_ok hn h9).2.1
  have a := I.len
  have b := (stopAt_ok hn h9).1
  unfold primesOf pfin
  split
  · rw [List.length_append]; show _ + 1 ≤ _; omega
  · omega
end W

namespace W
/-! operators on sequences: sums of shifts; they commute -/
abbrev Sq := Nat → Int
inductive Gen : (Sq → Sq) → Prop
  | cst (c : Int) : Gen fun a j => c * a j
  | sh : Gen fun a j => a (j + 1)
  | add {f g : Sq → Sq} (h : Gen f) (k : Gen g) : Gen fun a j => f a j + g a j
  | mul {f g : Sq → Sq} (h : Gen f) (k : Gen g) : Gen fun a => f (g a)
theorem Gen.addS {f : Sq → Sq} (h : Gen f) : ∀ a b : Sq, f (fun j => a j + b j) = fun j => f a j + f b j := by
  induction h with
  | cst c => intro a b; funext j; exact Int.mul_add _ _ _
  | sh => intro a b; rfl
  | add h k ih ik => intro a b; funext j; dsimp only; rw [ih, ik]; dsimp only; omega
  | mul h k ih ik => intro a b; dsimp only; rw [ik, ih]
theorem Gen.mulS {f : Sq → Sq} (h : Gen f) : ∀ (c : Int) (a : Sq), f (fun j => c * a j) = fun j => c * f a j := by
  induction h with
  | cst c => intro d a; funext j; show c * (d * a j) = d * (c * a j); rw [← Int.mul_assoc, ← Int.mul_assoc, Int.mul_comm c d]
  | sh => intro a b; rfl
  | add h k ih ik => intro a b; funext j; dsimp only; rw [ih, ik]; exact (Int.mul_add _ _ _).symm
  | mul h k ih ik => intro a b; dsimp only; rw [ik, ih]
theorem Gen.shS {f : Sq → Sq} (h : Gen f) : ∀ a : Sq, f (fun j => a (j + 1)) = fun j => f a (j + 1) := by
  induction h with
  | cst c => intro a; rfl
  | sh => intro a; rfl
  | add h k ih ik => intro a; funext j; dsimp only; rw [ih, ik]
  | mul h k ih ik => intro a; dsimp only; rw [ik, ih]
theorem Gen.comm {f g : Sq → Sq} (h : Gen f) (k : Gen g) : ∀ a, f (g a) = g (f a) := by
  induction h with
  | cst c => intro a; exact (k.mulS c a).symm
  | sh => intro a; exact (k.shS a).symm
  | @add f1 f2 h1 h2 i1 i2 => intro a; rw [k.addS (f1 a) (f2 a)]; funext j; dsimp only; rw [i1, i2]
  | mul h1 h2 i1 i2 => intro a; dsimp only; rw [i2, i1]
def Opr := { f : Sq → Sq // Gen f }
namespace Opr
theorem ext {x y : Opr} (h : ∀ a j, x.1 a j = y.1 a j) : x = y := Subtype.ext (funext fun a => funext fun j => h a j)
def cst (c : Int) : Opr := ⟨_, .cst c⟩
def sh : Opr := ⟨_, .sh⟩
instance : Add Opr := ⟨fun x y => ⟨_, .add x.2 y.2⟩⟩
instance : Mul Opr := ⟨fun x y => ⟨_, .mul x.2 y.2⟩⟩
instance (n : Nat) : OfNat Opr n := ⟨cst n⟩
instance : NatCast Opr := ⟨fun n => cst n⟩
instance : IntCast Opr := ⟨fun n => cst n⟩
instance : Neg Opr := ⟨fun x => cst (-1) * x⟩
instance : Sub Opr := ⟨fun x y => x + -y⟩
instance : SMul Nat Opr := ⟨fun n x => cst n * x⟩
instance : SMul Int Opr := ⟨fun n x => cst n * x⟩
def npow (x : Opr) : Nat → Opr
  | 0 => 1
  | n + 1 => npow x n * x
instance : HPow Opr Nat Opr := ⟨npow⟩
theorem add_at (x y : Opr) (a : Sq) (j : Nat) : (x + y).1 a j = x.1 a j + y.1 a j := rfl
theorem mul_at (x y : Opr) (a : Sq) : (x * y).1 a = x.1 (y.1 a) := rfl
theorem cst_at (c : Int) (a : Sq) (j : Nat) : (cst c).1 a j = c * a j := rfl
theorem zero_at (a : Sq) (j : Nat) : (0 : Opr).1 a j = 0 := Int.zero_mul _
theorem one_at (a : Sq) (j : Nat) : (1 : Opr).1 a j = a j := Int.one_mul _
theorem one_fn (a : Sq) : (1 : Opr).1 a = a := funext fun j => one_at a j
theorem nil (x : Opr) : x.1 (fun _ => 0) = fun _ => 0 := by
  have := x.2.mulS 0 (fun _ => 0)
  simpa using this
instance : Lean.Grind.CommRing Opr where
  add_zero x := ext fun a j => by rw [add_at, zero_at, Int.add_zero]
  add_comm x y := ext fun a j => Int.add_comm _ _
  add_assoc x y z := ext fun a j => Int.add_assoc _ _ _
  mul_assoc x y z := rfl
  mul_one x := ext fun a j => by rw [mul_at, one_fn]
  one_mul x := ext fun a j => by rw [mul_at, one_fn]
  left_distrib x y z := ext fun a j => by
    rw [add_at, mul_at, mul_at, mul_at]
    exact congrFun (x.2.addS (y.1 a) (z.1 a)) j
  right_distrib x y z := ext fun a j => rfl
  zero_mul x := ext fun a j => by rw [mul_at, zero_at, zero_at]
  mul_zero x := ext fun a j => by
    rw [mul_at, zero_at, show (0 : Opr).1 a = fun _ => 0 from funext fun j => zero_at a j, nil]
  pow_zero x := rfl
  pow_succ x n := rfl
  ofNat_succ n := ext fun a j => by
    rw [add_at, one_at]
    show ((n + 1 : Nat) : Int) * a j = (n : Int) * a j + a j
    rw [Int.natCast_add, Int.add_mul]
    show _ + 1 * a j = _
    rw [Int.one_mul]
  ofNat_eq_natCast n := rfl
  nsmul_eq_natCast_mul n x := rfl
  neg_add_cancel x := ext fun a j => by
    rw [add_at, zero_at]
    show -1 * x.1 a j + x.1 a j = 0
    omega
  sub_eq_add_neg x y := rfl
  neg_zsmul i x := ext fun a j => by
    show -i * x.1 a j = -1 * (i * x.1 a j)
    rw [Int.neg_mul]; omega
  zsmul_natCast_eq_nsmul n x := rfl
  intCast_ofNat n := rfl
  intCast_neg i := ext fun a j => by
    show -i * a j = -1 * (i * a j)
    rw [Int.neg_mul]; omega
  mul_comm x y := ext fun a j => congrFun (x.2.comm y.2 a) j
end Opr
end W
namespace W
/-! commutative rings: binomials, the P-th power of a sum -/
def ch : Nat → Nat → Nat
  | _, 0 => 1
  | 0, _ + 1 => 0
  | n + 1, k + 1 => ch n k + ch n (k + 1)
theorem ch_gt : ∀ n k, n < k → ch n k = 0
  | 0, 0, h => absurd h (Nat.lt_irrefl _)
  | 0, k + 1, _ => rfl
  | n + 1, 0, h => by omega
  | n + 1, k + 1, h => by show ch n k + ch n (k + 1) = 0; rw [ch_gt n k (by omega), ch_gt n (k + 1) (by omega)]
theorem ch_self : ∀ n, ch n n = 1
  | 0 => rfl
  | n + 1 => by show ch n n + ch n (n + 1) = 1; rw [ch_self n, ch_gt n (n + 1) (by omega)]
theorem ch_zero (n : Nat) : ch n 0 = 1 := by cases n <;> rfl
theorem ch_mul : ∀ n k, (k + 1) * ch (n + 1) (k + 1) = (n + 1) * ch n k
  | 0, 0 => rfl
  | 0, k + 1 => by show (k + 2) * (ch 0 (k + 1) + ch 0 (k + 2)) = 1 * 0; rfl
  | n + 1, 0 => by
    have h := ch_mul n 0
    rw [ch_zero] at h
    show (0 + 1) * (ch (n + 1) 0 + ch (n + 1) 1) = (n + 1 + 1) * ch (n + 1) 0
    rw [ch_zero]
    simp only [Nat.zero_add, Nat.one_mul, Nat.mul_one] at *
    omega
  | n + 1, k + 1 => by
    have h1 := ch_mul n k
    have h2 := ch_mul n (k + 1)
    show (k + 1 + 1) * (ch (n + 1) (k + 1) + ch (n + 1) (k + 1 + 1)) = (n + 1 + 1) * ch (n + 1) (k + 1)
    have e : ch (n + 1) (k + 1) = ch n k + ch n (k + 1) := rfl
    rw [Nat.mul_add, h2, Nat.add_mul (k + 1) 1, h1, Nat.add_mul (n + 1) 1, e, Nat.mul_add (n + 1)]
    omega
/-- a prime among the Nats -/
def PrN (p : Nat) : Prop := 3 ≤ p ∧ ∀ d, 2 ≤ d → d < p → ¬ d ∣ p
theorem PrN.cop {p k : Nat} (h : PrN p) (h1 : 0 < k) (h2 : k < p) : Nat.Coprime p k := by
  have g1 : Nat.gcd p k ∣ p := Nat.gcd_dvd_left p k
  have g2 : Nat.gcd p k ≤ k := Nat.le_of_dvd h1 (Nat.gcd_dvd_right p k)
  have g3 : 0 < Nat.gcd p k := Nat.gcd_pos_of_pos_right p h1
  refine Classical.byContradiction fun hne => ?_
  have : Nat.gcd p k ≠ 1 := hne
  exact h.2 _ (by omega) (by omega) g1
theorem PrN.dvd_ch {p k : Nat} (h : PrN p) (h2 : k + 1 < p) : p ∣ ch p (k + 1) := by
  obtain ⟨m, rfl⟩ : ∃ m, p = m + 1 := ⟨p - 1, by have := h.1; omega⟩
  have e := ch_mul m k
  exact (h.cop (by omega) h2).dvd_of_dvd_mul_left ⟨ch m k, e⟩
section
open Lean.Grind
local instance ncast1 {R : Type} [CommRing R] : NatCast R := Semiring.natCast
variable {R : Type} [CommRing R]
def rs : Nat → (Nat → R) → R
  | 0, _ => 0
  | n + 1, f => rs n f + f n
theorem rs_congr {f g : Nat → R} : ∀ n, (∀ k, k < n → f k = g k) → rs n f = rs n g
  | 0, _ => rfl
  | n + 1, h => by show rs n f + f n = rs n g + g n; rw [rs_congr n fun k hk => h k (by omega), h n (by omega)]
theorem rs_add {f g : Nat → R} : ∀ n, rs n (fun k => f k + g k) = rs n f + rs n g
  | 0 => by show (0 : R) = 0 + 0; grind
  | n + 1 => by show rs n _ + _ = (rs n f + f n) + (rs n g + g n); rw [rs_add n]; grind
theorem rs_mul {f : Nat → R} (c : R) : ∀ n, rs n (fun k => c * f k) = c * rs n f
  | 0 => by show (0 : R) = c * 0; grind
  | n + 1 => by show rs n _ + _ = c * (rs n f + f n); rw [rs_mul c n]; grind
theorem rs_front {f : Nat → R} : ∀ n, rs (n + 1) f = f 0 + rs n fun k => f (k + 1)
  | 0 => by show (0 : R) + f 0 = f 0 + 0; grind
  | n + 1 => by
    have h := rs_front (f := f) n
    show rs (n + 1) f + f (n + 1) = f 0 + (rs n (fun k => f (k + 1)) + f (n + 1))
    rw [h]; grind
theorem nc_add (a b : Nat) : ((a + b : Nat) : R) = (a : R) + (b : R) := Semiring.natCast_add a b
theorem nc_mul (a b : Nat) : ((a * b : Nat) : R) = (a : R) * (b : R) := Semiring.natCast_mul a b
theorem nc_zero : ((0 : Nat) : R) = 0 := Semiring.natCast_zero
theorem nc_one : ((1 : Nat) : R) = 1 := Semiring.natCast_one
theorem pw_s (a : R) (n : Nat) : a ^ (n + 1) = a ^ n * a := Semiring.pow_succ a n
theorem pw_z (a : R) : a ^ 0 = 1 := Semiring.pow_zero a
theorem pw_a (a : R) (m : Nat) : ∀ n, a ^ (m + n) = a ^ m * a ^ n
  | 0 => by rw [Nat.add_zero, pw_z]; grind
  | n + 1 => by rw [← Nat.add_assoc, pw_s, pw_s, pw_a a m n]; grind
theorem pw_m (a : R) (m : Nat) : ∀ n, a ^ (m * n) = (a ^ m) ^ n
  | 0 => by rw [Nat.mul_zero, pw_z, pw_z]
  | n + 1 => by rw [Nat.mul_succ, pw_a, pw_m a m n, pw_s]
theorem mul_pw (a b : R) : ∀ n : Nat, (a * b) ^ n = a ^ n * b ^ n
  | 0 => by rw [pw_z, pw_z, pw_z]; grind
  | n + 1 => by rw [pw_s, pw_s, pw_s, mul_pw a b n]; grind
theorem one_pw : ∀ n : Nat, (1 : R) ^ n = 1
  | 0 => pw_z _
  | n + 1 => by rw [pw_s, one_pw n]; grind
def bt (a b : R) (n k : Nat) : R := (ch n k : R) * (a ^ k * b ^ (n - k))
theorem bt_s (a b : R) (n k : Nat) : bt a b (n + 1) (k + 1) = a * bt a b n k + b * bt a b n (k + 1) := by
  unfold bt
  have e : ch (n + 1) (k + 1) = ch n k + ch n (k + 1) := rfl
  rw [e, nc_add, pw_s, show n + 1 - (k + 1) = n - k by omega]
  rcases Nat.lt_or_ge k n with h | h
  · rw [show n - k = n - (k + 1) + 1 by omega, pw_s]
    grind
  · rw [ch_gt n (k + 1) (by omega), nc_zero]
    grind
theorem bin (a b : R) : ∀ n, (a + b) ^ n = rs (n + 1) (bt a b n)
  | 0 => by
    show _ = (0 : R) + bt a b 0 0
    unfold bt
    rw [pw_z, ch_zero, nc_one, pw_z, pw_z]
    grind
  | n + 1 => by
    rw [pw_s, bin a b n, rs_front (n + 1), rs_congr (g := fun k => a * bt a b n k + b * bt a b n (k + 1)) (n + 1) (fun k _ => bt_s a b n k), rs_add, rs_mul, rs_mul]
    have h1 : rs (n + 2) (bt a b n) = bt a b n 0 + rs (n + 1) fun k => bt a b n (k + 1) := rs_front (n + 1)
    have h2 : rs (n + 2) (bt a b n) = rs (n + 1) (bt a b n) + bt a b n (n + 1) := rfl
    have h3 : bt a b n (n + 1) = 0 := by
      unfold bt
      rw [ch_gt n (n + 1) (by omega), nc_zero]; grind
    have h4 : bt a b (n + 1) 0 = b * bt a b n 0 := by
      unfold bt
      rw [ch_zero, ch_zero, nc_one, pw_z, Nat.sub_zero, Nat.sub_zero, pw_s]; grind
    rw [h4]
    generalize rs (n + 1) (bt a b n) = x at *
    generalize rs (n + 1) (fun k => bt a b n (k + 1)) = y at *
    generalize rs (n + 2) (bt a b n) = z at *
    grind
/-- the P-th power of a sum -/
theorem frob {p : Nat} (hp : PrN p) (a b : R) : ∃ q : R, (a + b) ^ p = a ^ p + b ^ p + (p : R) * q := by
  have p3 := hp.1
  have key : ∀ n, n + 1 ≤ p → ∃ q : R, rs n (fun k => bt a b p (k + 1)) = (p : R) * q := fun n => by
    induction n with
    | zero => intro _; exact ⟨0, by show (0 : R) = _; grind⟩
    | succ n ih =>
      intro hn
      obtain ⟨q, hq⟩ := ih (by omega)
      obtain ⟨m, hm⟩ := hp.dvd_ch (k := n) (by omega)
      refine ⟨q + (m : R) * (a ^ (n + 1) * b ^ (p - (n + 1))), ?_⟩
      show rs n _ + bt a b p (n + 1) = _
      rw [hq]
      unfold bt
      rw [hm, nc_mul]
      grind
  obtain ⟨q, hq⟩ := key (p - 1) (by omega)
  refine ⟨q, ?_⟩
  rw [bin, rs_front p]
  obtain ⟨m, rfl⟩ : ∃ m, p = m + 1 := ⟨p - 1, by omega⟩
  have e : rs (m + 1) (fun k => bt a b (m + 1) (k + 1)) = rs m (fun k => bt a b (m + 1) (k + 1)) + bt a b (m + 1) (m + 1) := rfl
  have e2 : m + 1 - 1 = m := rfl
  rw [e2] at hq
  rw [e, hq]
  have e3 : bt a b (m + 1) (m + 1) = a ^ (m + 1) := by unfold bt; rw [ch_self, nc_one, Nat.sub_self, pw_z]; grind
  have e4 : bt a b (m + 1) 0 = b ^ (m + 1) := by unfold bt; rw [ch_zero, nc_one, pw_z, Nat.sub_zero]; grind
  rw [e3, e4]
  grind
/-- an ideal that holds p -/
structure Ide (I : R → Prop) (p : Nat) : Prop where
  add : ∀ {a b}, I a → I b → I (a + b)
  mul : ∀ {a} (b), I a → I (b * a)
  p : I (p : R)
section
variable {I : R → Prop} {p : Nat} (hI : Ide I p)
include hI
theorem Ide.eq {a b : R} (h : I a) (e : a = b) : I b := e ▸ h
theorem Ide.sub {a b : R} (h : I a) (k : I b) : I (a - b) := hI.eq (hI.add h (hI.mul (-1) k)) (by grind)
theorem Ide.lin {a b : R} (u v : R) (h : I a) (k : I b) : I (u * a + v * b) := hI.add (hI.mul u h) (hI.mul v k)
theorem Ide.zero : I 0 := hI.eq (hI.mul 0 hI.p) (by grind)
theorem Ide.tr {a b : R} (h : I (a - b)) (k : I b) : I a := hI.eq (hI.add h k) (by grind)
theorem Ide.pow {a b : R} (h : I (a - b)) : ∀ n : Nat, I (a ^ n - b ^ n)
  | 0 => hI.eq hI.zero (by rw [pw_z, pw_z]; grind)
  | n + 1 => hI.eq (hI.lin a (b ^ n) (Ide.pow h n) h) (by rw [pw_s, pw_s]; grind)
theorem Ide.frob (hp : PrN p) (a b : R) : I ((a + b) ^ p - (a ^ p + b ^ p)) := by
  obtain ⟨q, hq⟩ := W.frob hp a b
  exact hI.eq (hI.mul q hI.p) (by rw [hq]; grind)
/-- a number is its P-th power -/
theorem Ide.ferm (hp : PrN p) : ∀ c : Nat, I ((c : R) ^ p - (c : R))
  | 0 => hI.eq hI.zero (by
    obtain ⟨m, rfl⟩ : ∃ m, p = m + 1 := ⟨p - 1, by have := hp.1; omega⟩
    rw [nc_zero, pw_s]; grind)
  | c + 1 => by
    have h := Ide.ferm hp c
    have k := hI.frob hp (c : R) 1
    rw [nc_add, nc_one]
    rw [one_pw] at k
    exact hI.eq (hI.add k h) (by grind)
/-- a number that p does not divide may be left out -/
theorem Ide.can0 (hp : PrN p) {a : R} : ∀ (m c : Nat), c ≤ m → 0 < c → c < p → I ((c : R) * a) → I a
  | 0, c, h, h0, _, _ => by omega
  | m + 1, c, h, h0, h1, hc => by
    by_cases e : c = 1
    · subst e
      exact hI.eq hc (by rw [nc_one]; grind)
    · have r0 : p % c ≠ 0 := fun z => hp.2 c (by omega) h1 (Nat.dvd_of_mod_eq_zero z)
      have r1 : p % c < c := Nat.mod_lt _ h0
      refine Ide.can0 hp m (p % c) (by omega) (by omega) (by omega) ?_
      have e2 : c * (p / c) + p % c = p := Nat.div_add_mod p c
      have e3 : (p : R) = (c : R) * ((p / c : Nat) : R) + ((p % c : Nat) : R) := by rw [← nc_mul, ← nc_add, e2]
      exact hI.eq (hI.sub (hI.mul a hI.p) (hI.mul ((p / c : Nat) : R) hc)) (by rw [e3]; grind)
theorem Ide.can (hp : PrN p) {c : Nat} (h0 : c % p ≠ 0) {a : R} (h : I ((c : R) * a)) : I a := by
  have p3 := hp.1
  refine hI.can0 hp (c % p) (c % p) (Nat.le_refl _) (by omega) (Nat.mod_lt _ (by omega)) ?_
  have e2 : p * (c / p) + c % p = c := Nat.div_add_mod c p
  have e3 : (c : R) = (p : R) * ((c / p : Nat) : R) + ((c % p : Nat) : R) := by rw [← nc_mul, ← nc_add, e2]
  exact hI.eq (hI.sub h (hI.mul (((c / p : Nat) : R) * a) hI.p)) (by rw [e3]; grind)
end
end
end W
namespace W
section
open Lean.Grind
local instance ncast2 {R : Type} [CommRing R] : NatCast R := Semiring.natCast
variable {R : Type} [CommRing R] {I : R → Prop} {p : Nat} (hI : Ide I p) (hp : PrN p)
include hI
/-- Vandermonde, up to the third degree -/
theorem van1 {c0 c1 y0 y1 : R} (h0 : I (c0 + c1 * y0)) (h1 : I (c0 + c1 * y1)) : I (c1 * (y1 - y0)) := hI.eq (hI.sub h1 h0) (by grind)
theorem van2 {c0 c1 c2 y0 y1 y2 : R} (h0 : I (c0 + c1 * y0 + c2 * y0 ^ 2)) (h1 : I (c0 + c1 * y1 + c2 * y1 ^ 2)) (h2 : I (c0 + c1 * y2 + c2 * y2 ^ 2)) : I (c2 * ((y1 - y0) * (y2 - y0) * (y2 - y1))) := by
  have a1 : I ((y1 - y0) * (c1 + c2 * (y1 + y0))) := hI.eq (hI.sub h1 h0) (by grind)
  have a2 : I ((y2 - y0) * (c1 + c2 * (y2 + y0))) := hI.eq (hI.sub h2 h0) (by grind)
  exact hI.eq (hI.sub (hI.mul (y1 - y0) a2) (hI.mul (y2 - y0) a1)) (by grind)
theorem van3 {c0 c1 c2 c3 y0 y1 y2 y3 : R} (h0 : I (c0 + c1 * y0 + c2 * y0 ^ 2 + c3 * y0 ^ 3)) (h1 : I (c0 + c1 * y1 + c2 * y1 ^ 2 + c3 * y1 ^ 3)) (h2 : I (c0 + c1 * y2 + c2 * y2 ^ 2 + c3 * y2 ^ 3)) (h3 : I (c0 + c1 * y3 + c2 * y3 ^ 2 + c3 * y3 ^ 3)) :
    I (c3 * ((y1 - y0) * (y2 - y0) * (y3 - y0) * (y2 - y1) * (y3 - y1) * (y3 - y2))) := by
  have a1 : I ((y1 - y0) * (c1 + c2 * (y1 + y0) + c3 * (y1 ^ 2 + y1 * y0 + y0 ^ 2))) := hI.eq (hI.sub h1 h0) (by grind)
  have a2 : I ((y2 - y0) * (c1 + c2 * (y2 + y0) + c3 * (y2 ^ 2 + y2 * y0 + y0 ^ 2))) := hI.eq (hI.sub h2 h0) (by grind)
  have a3 : I ((y3 - y0) * (c1 + c2 * (y3 + y0) + c3 * (y3 ^ 2 + y3 * y0 + y0 ^ 2))) := hI.eq (hI.sub h3 h0) (by grind)
  have b2 : I ((y1 - y0) * (y2 - y0) * (y2 - y1) * (c2 + c3 * (y2 + y1 + y0))) := hI.eq (hI.sub (hI.mul (y1 - y0) a2) (hI.mul (y2 - y0) a1)) (by grind)
  have b3 : I ((y1 - y0) * (y3 - y0) * (y3 - y1) * (c2 + c3 * (y3 + y1 + y0))) := hI.eq (hI.sub (hI.mul (y1 - y0) a3) (hI.mul (y3 - y0) a1)) (by grind)
  exact hI.eq (hI.sub (hI.mul ((y2 - y0) * (y2 - y1)) b3) (hI.mul ((y3 - y0) * (y3 - y1)) b2)) (by grind)
/-! values of a polynomial at P-th powers -/
theorem pw_ne {n : Nat} (h : 0 < n) {a : R} (ha : I a) : I (a ^ n) := by
  obtain ⟨m, rfl⟩ : ∃ m, n = m + 1 := ⟨n - 1, by omega⟩
  rw [pw_s]
  exact hI.mul _ ha
include hp
theorem mono_pw (c : Nat) (y : R) (i : Nat) : I (((c : R) * y ^ i) ^ p - (c : R) * (y ^ p) ^ i) := by
  have h := hI.ferm hp c
  have e : (y ^ i) ^ p = (y ^ p) ^ i := by rw [← pw_m, ← pw_m, Nat.mul_comm]
  rw [mul_pw, e]
  exact hI.eq (hI.mul ((y ^ p) ^ i) h) (by grind)
theorem poly_pw {c0 c1 c2 c3 : Nat} {y : R} (h : I ((c0 : R) + (c1 : R) * y + (c2 : R) * y ^ 2 + (c3 : R) * y ^ 3)) : I ((c0 : R) + (c1 : R) * y ^ p + (c2 : R) * (y ^ p) ^ 2 + (c3 : R) * (y ^ p) ^ 3) := by
  have p3 := hp.1
  have k := pw_ne hI (n := p) (by omega) h
  have f1 := hI.frob hp ((c0 : R) + (c1 : R) * y + (c2 : R) * y ^ 2) ((c3 : R) * y ^ 3)
  have f2 := hI.frob hp ((c0 : R) + (c1 : R) * y) ((c2 : R) * y ^ 2)
  have f3 := hI.frob hp (c0 : R) ((c1 : R) * y)
  have m0 := hI.ferm hp c0
  have m1 := mono_pw hI hp c1 y 1
  have m2 := mono_pw hI hp c2 y 2
  have m3 := mono_pw hI hp c3 y 3
  have e1 : y ^ 1 = y := by rw [pw_s, pw_z]; grind
  have e2 : (y ^ p) ^ 1 = y ^ p := by rw [pw_s, pw_z]; grind
  rw [e1, e2] at m1
  have s1 := hI.sub k f1
  have s2 := hI.sub s1 f2
  have s3 := hI.sub s2 f3
  have s4 := hI.sub s3 m0
  have s5 := hI.sub s4 m1
  have s6 := hI.sub s5 m2
  have s7 := hI.sub s6 m3
  refine hI.eq s7 ?_
  generalize (c0 : R) ^ p = d0
  generalize ((c1 : R) * y) ^ p = d1
  generalize ((c2 : R) * y ^ 2) ^ p = d2
  generalize ((c3 : R) * y ^ 3) ^ p = d3
  generalize ((c0 : R) + (c1 : R) * y + (c2 : R) * y ^ 2 + (c3 : R) * y ^ 3) ^ p = d4
  generalize ((c0 : R) + (c1 : R) * y + (c2 : R) * y ^ 2) ^ p = d5
  generalize ((c0 : R) + (c1 : R) * y) ^ p = d6
  grind
/-! powers of x less 1 -/
omit hI hp in
/-- x ^ m - 1 divides x ^ (m k) - 1 -/
theorem geo (x : R) (m : Nat) : ∀ k : Nat, ∃ q : R, x ^ (m * k) - 1 = q * (x ^ m - 1)
  | 0 => ⟨0, by rw [Nat.mul_zero, pw_z]; grind⟩
  | k + 1 => by
    obtain ⟨q, hq⟩ := geo x m k
    refine ⟨q * x ^ m + 1, ?_⟩
    rw [Nat.mul_succ, pw_a]
    have : x ^ (m * k) = q * (x ^ m - 1) + 1 := by rw [← hq]; grind
    rw [this]; grind
theorem sub_pw (a b : R) : I ((a - b) ^ p - (a ^ p - b ^ p)) := by
  have f := hI.frob hp (a - b) b
  have e : a - b + b = a := by grind
  rw [e] at f
  exact hI.eq (hI.mul (-1) f) (by grind)
theorem sub_pwi (a b : R) : ∀ i : Nat, I ((a - b) ^ (p ^ i) - (a ^ (p ^ i) - b ^ (p ^ i)))
  | 0 => hI.eq hI.zero (by
    show _ = (a - b) ^ (p ^ 0) - (a ^ (p ^ 0) - b ^ (p ^ 0))
    rw [Nat.pow_zero, pw_s, pw_z, pw_s, pw_z, pw_s, pw_z]; grind)
  | i + 1 => by
    have h := sub_pwi a b i
    have k := hI.pow h p
    rw [← pw_m, ← Nat.pow_succ] at k
    have f := sub_pw hI hp (a ^ (p ^ i)) (b ^ (p ^ i))
    rw [← pw_m, ← pw_m, ← Nat.pow_succ] at f
    exact hI.eq (hI.add k f) (by grind)
/-- a difference of P-th powers may be changed for powers of x and of x ^ L - 1 -/
theorem dif_out {x b : R} {L i d : Nat} (hd : 0 < d) (hL : (p ^ d - 1) ∣ L) (h : I (b * (x ^ (p ^ (i + d)) - x ^ (p ^ i)))) : I (b * (x ^ (p ^ i) * (x ^ L - 1) ^ (p ^ i))) := by
  have p3 := hp.1
  obtain ⟨k, rfl⟩ := hL
  obtain ⟨q, hq⟩ := geo x (p ^ d - 1) k
  have pd : 1 ≤ p ^ d := Nat.pow_pos (by omega)
  have e : p ^ (i + d) = p ^ i + (p ^ d - 1) * p ^ i := by
    rw [Nat.pow_add, Nat.sub_mul, Nat.one_mul, Nat.mul_comm (p ^ d)]
    have := Nat.le_mul_of_pos_right (p ^ i) pd
    omega
  have f := sub_pwi hI hp (x ^ (p ^ d - 1)) 1 i
  rw [one_pw, ← pw_m] at f
  rw [hq, mul_pw]
  rw [e, pw_a] at h
  refine hI.eq (hI.lin (q ^ (p ^ i)) (b * x ^ (p ^ i) * q ^ (p ^ i)) h f) ?_
  generalize x ^ (p ^ i) = u
  generalize x ^ ((p ^ d - 1) * p ^ i) = v
  generalize (x ^ (p ^ d - 1) - 1) ^ p ^ i = z
  generalize q ^ p ^ i = r
  grind
end
end W
namespace W
section
open Lean.Grind
local instance ncast3 {R : Type} [CommRing R] : NatCast R := Semiring.natCast
variable {R : Type} [CommRing R] {I : R → Prop} {p : Nat} (hI : Ide I p) (hp : PrN p)
include hI hp
theorem dif_swap {b : R} {a c : R} (h : I (b * (a * c))) : I (b * a * c) := hI.eq h (by grind)
/-- the polynomial's values give a power of x ^ L - 1 that is in the ideal; 1 ≤ n ≤ 3 -/
theorem pow_in {x : R} {c0 c1 c2 c3 L : Nat} {n : Nat} (hn : n ≤ 3) (hL : ∀ d, 1 ≤ d → d ≤ n → (p ^ d - 1) ∣ L) (h2 : 2 ≤ n ∨ c2 % p = 0) (h3 : 3 ≤ n ∨ c3 % p = 0) (h1 : 1 ≤ n ∨ c1 % p = 0)
    (hc : c0 % p ≠ 0 ∨ c1 % p ≠ 0 ∨ c2 % p ≠ 0 ∨ c3 % p ≠ 0) (h : I ((c0 : R) + (c1 : R) * x + (c2 : R) * x ^ 2 + (c3 : R) * x ^ 3)) : ∃ s m : Nat, I (x ^ s * (x ^ L - 1) ^ m) := by
  have p3 := hp.1
  have z : ∀ {c : Nat} (y : R), c % p = 0 → I ((c : R) * y) := fun {c} y hc => by
    obtain ⟨k, rfl⟩ := Nat.dvd_of_mod_eq_zero hc
    exact hI.eq (hI.mul ((k : R) * y) hI.p) (by rw [nc_mul]; grind)
  have v0 := h
  have v1 := poly_pw hI hp v0
  have v2 := poly_pw hI hp v1
  have v3 := poly_pw hI hp v2
  have q1 : x ^ p = x ^ (p ^ 1) := by rw [Nat.pow_one]
  have q2 : (x ^ p) ^ p = x ^ (p ^ 2) := by rw [← pw_m, show p ^ 2 = p * p by rw [Nat.pow_succ, Nat.pow_one]]
  have q3 : ((x ^ p) ^ p) ^ p = x ^ (p ^ 3) := by rw [q2, ← pw_m, ← Nat.pow_succ]
  have q0 : x = x ^ (p ^ 0) := by rw [Nat.pow_zero, pw_s, pw_z]; grind
  rw [q3] at v3
  rw [q2] at v2
  rw [q1] at v1
  rw [q0] at v0
  by_cases e3 : c3 % p = 0
  · -- no cube
    have w0 := hI.sub v0 (z ((x ^ (p ^ 0)) ^ 3) e3)
    have w1 := hI.sub v1 (z ((x ^ (p ^ 1)) ^ 3) e3)
    have w2 := hI.sub v2 (z ((x ^ (p ^ 2)) ^ 3) e3)
    by_cases e2 : c2 % p = 0
    · have u0 := hI.sub w0 (z ((x ^ (p ^ 0)) ^ 2) e2)
      have u1 := hI.sub w1 (z ((x ^ (p ^ 1)) ^ 2) e2)
      by_cases e1 : c1 % p = 0
      · have t0 := hI.sub u0 (z (x ^ (p ^ 0)) e1)
        have t1 : I ((c0 : R) * 1) := hI.eq t0 (by grind)
        have t2 := hI.can hp (show c0 % p ≠ 0 by rcases hc with k | k | k | k <;> first | exact k | exact absurd (by assumption) k) t1
        exact ⟨0, 0, hI.eq t2 (by rw [pw_z, pw_z]; grind)⟩
      · have r := van1 hI (c0 := (c0 : R)) (c1 := (c1 : R)) (y0 := x ^ (p ^ 0)) (y1 := x ^ (p ^ 1)) (hI.eq u0 (by grind)) (hI.eq u1 (by grind))
        have r1 := hI.can hp e1 r
        have r2 : I (1 * (x ^ (p ^ (0 + 1)) - x ^ (p ^ 0))) := hI.eq r1 (by grind)
        have n1 : 1 ≤ n := by rcases h1 with k | k; exact k; exact absurd k e1
        exact ⟨p ^ 0, p ^ 0, hI.eq (dif_out hI hp (x := x) (L := L) (by decide) (hL 1 (by omega) (by omega)) r2) (by generalize x ^ (p ^ 0) = u; generalize (x ^ L - 1) ^ (p ^ 0) = v; grind)⟩
    · have n2 : 2 ≤ n := by rcases h2 with k | k; exact k; exact absurd k e2
      have r := van2 hI (c0 := (c0 : R)) (c1 := (c1 : R)) (c2 := (c2 : R)) (y0 := x ^ (p ^ 0)) (y1 := x ^ (p ^ 1)) (y2 := x ^ (p ^ 2)) (hI.eq w0 (by grind)) (hI.eq w1 (by grind)) (hI.eq w2 (by grind))
      have r1 := hI.can hp e2 r
      have a1 := dif_out hI hp (x := x) (L := L) (i := 1) (d := 1) (b := (x ^ (p ^ 1) - x ^ (p ^ 0)) * (x ^ (p ^ 2) - x ^ (p ^ 0))) (by decide) (hL 1 (by omega) (by omega)) r1
      generalize hg1 : x ^ (p ^ 1) * (x ^ L - 1) ^ (p ^ 1) = g1 at a1
      have a2 := dif_out hI hp (x := x) (L := L) (i := 0) (d := 2) (b := g1 * (x ^ (p ^ 1) - x ^ (p ^ 0))) (by decide) (hL 2 (by omega) (by omega)) (hI.eq a1 (by grind))
      generalize hg2 : x ^ (p ^ 0) * (x ^ L - 1) ^ (p ^ 0) = g2 at a2
      have a3 := dif_out hI hp (x := x) (L := L) (i := 0) (d := 1) (b := g1 * g2) (by decide) (hL 1 (by omega) (by omega)) (hI.eq a2 (by grind))
      rw [hg2] at a3
      refine ⟨p ^ 1 + (p ^ 0 + p ^ 0), p ^ 1 + (p ^ 0 + p ^ 0), hI.eq a3 ?_⟩
      rw [← hg1, ← hg2, pw_a, pw_a, pw_a, pw_a]
      grind
  · have n3 : 3 ≤ n := by rcases h3 with k | k; exact k; exact absurd k e3
    have r := van3 hI v0 v1 v2 v3
    have r1 := hI.can hp e3 r
    have a1 := dif_out hI hp (x := x) (L := L) (i := 2) (d := 1) (b := (x ^ (p ^ 1) - x ^ (p ^ 0)) * (x ^ (p ^ 2) - x ^ (p ^ 0)) * (x ^ (p ^ 3) - x ^ (p ^ 0)) * (x ^ (p ^ 2) - x ^ (p ^ 1)) * (x ^ (p ^ 3) - x ^ (p ^ 1))) (by decide) (hL 1 (by omega) (by omega)) r1
    generalize hg1 : x ^ (p ^ 2) * (x ^ L - 1) ^ (p ^ 2) = g1 at a1
    have a2 := dif_out hI hp (x := x) (L := L) (i := 1) (d := 2) (b := g1 * ((x ^ (p ^ 1) - x ^ (p ^ 0)) * (x ^ (p ^ 2) - x ^ (p ^ 0)) * (x ^ (p ^ 3) - x ^ (p ^ 0)) * (x ^ (p ^ 2) - x ^ (p ^ 1)))) (by decide) (hL 2 (by omega) (by omega)) (hI.eq a1 (by grind))
    generalize hg2 : x ^ (p ^ 1) * (x ^ L - 1) ^ (p ^ 1) = g2 at a2
    have a3 := dif_out hI hp (x := x) (L := L) (i := 1) (d := 1) (b := g1 * g2 * ((x ^ (p ^ 1) - x ^ (p ^ 0)) * (x ^ (p ^ 2) - x ^ (p ^ 0)) * (x ^ (p ^ 3) - x ^ (p ^ 0)))) (by decide) (hL 1 (by omega) (by omega)) (hI.eq a2 (by grind))
    rw [hg2] at a3
    have a4 := dif_out hI hp (x := x) (L := L) (i := 0) (d := 3) (b := g1 * g2 * g2 * ((x ^ (p ^ 1) - x ^ (p ^ 0)) * (x ^ (p ^ 2) - x ^ (p ^ 0)))) (by decide) (hL 3 (by omega) (by omega)) (hI.eq a3 (by grind))
    generalize hg3 : x ^ (p ^ 0) * (x ^ L - 1) ^ (p ^ 0) = g3 at a4
    have a5 := dif_out hI hp (x := x) (L := L) (i := 0) (d := 2) (b := g1 * g2 * g2 * g3 * (x ^ (p ^ 1) - x ^ (p ^ 0))) (by decide) (hL 2 (by omega) (by omega)) (hI.eq a4 (by grind))
    rw [hg3] at a5
    have a6 := dif_out hI hp (x := x) (L := L) (i := 0) (d := 1) (b := g1 * g2 * g2 * g3 * g3) (by decide) (hL 1 (by omega) (by omega)) (hI.eq a5 (by grind))
    rw [hg3] at a6
    refine ⟨p ^ 2 + (p ^ 1 + (p ^ 1 + (p ^ 0 + (p ^ 0 + p ^ 0)))), p ^ 2 + (p ^ 1 + (p ^ 1 + (p ^ 0 + (p ^ 0 + p ^ 0)))), hI.eq a6 ?_⟩
    rw [← hg1, ← hg2, ← hg3]
    simp only [pw_a]
    grind
/-! few dimensions: high powers are not wanted -/
omit hp in
theorem rs_in {f : Nat → R} : ∀ n, (∀ k, k < n → I (f k)) → I (rs n f)
  | 0, _ => hI.zero
  | n + 1, h => hI.add (rs_in n fun k hk => h k (by omega)) (h n (by omega))
omit hp in
theorem rs_one {f : Nat → R} {i : Nat} : ∀ n, i < n → (∀ k, k < n → k ≠ i → I (f k)) → I (rs n f) → I (f i)
  | n + 1, hi, h, hs => by
    by_cases e : i = n
    · subst e
      exact hI.eq (hI.sub hs (rs_in hI i fun k hk => h k (by omega) (by omega))) (by show rs i f + f i - rs i f = f i; grind)
    · exact rs_one n (by omega) (fun k hk hne => h k (by omega) hne) (hI.eq (hI.sub hs (h n (by omega) (fun z => e z.symm))) (by show rs n f + f n - f n = rs n f; grind))
/-- among any n + 1 there is a sum that is in the ideal -/
def Dep (I : R → Prop) (p n : Nat) : Prop := ∀ f : Nat → R, ∃ c : Nat → Nat, (∃ i, i ≤ n ∧ c i % p ≠ 0) ∧ I (rs (n + 1) fun i => (c i : R) * f i)
theorem few {n : Nat} (hd : Dep I p n) (b g : R) {m : Nat} (h : I (b * g ^ m)) : I (b * g ^ n) := by
  have least : ∀ m : Nat, I (b * g ^ m) → ∃ m0, I (b * g ^ m0) ∧ ∀ k, k < m0 → ¬ I (b * g ^ k) := fun m => by
    induction m using Nat.strongRecOn with
    | _ m ih =>
      intro hm
      by_cases e : ∃ k, k < m ∧ I (b * g ^ k)
      · obtain ⟨k, hk, hk2⟩ := e
        exact ih k hk hk2
      · exact ⟨m, hm, fun k hk hk2 => e ⟨k, hk, hk2⟩⟩
  obtain ⟨m0, h0, hl⟩ := least m h
  have up : ∀ k, m0 ≤ k → I (b * g ^ k) := fun k hk => by
    obtain ⟨d, rfl⟩ := Nat.exists_eq_add_of_le hk
    exact hI.eq (hI.mul (g ^ d) h0) (by rw [pw_a]; grind)
  rcases Nat.lt_or_ge n m0 with hn | hn
  · exfalso
    obtain ⟨c, ⟨i, hi, hci⟩, hs⟩ := hd fun i => b * g ^ i
    -- the least place whose number counts
    have lp : ∀ i : Nat, c i % p ≠ 0 → ∃ i0, i0 ≤ i ∧ c i0 % p ≠ 0 ∧ ∀ k, k < i0 → c k % p = 0 := fun i => by
      induction i using Nat.strongRecOn with
      | _ i ih =>
        intro hi
        by_cases e : ∃ k, k < i ∧ c k % p ≠ 0
        · obtain ⟨k, hk, hk2⟩ := e
          obtain ⟨i0, a, b, d⟩ := ih k hk hk2
          exact ⟨i0, by omega, b, d⟩
        · exact ⟨i, Nat.le_refl _, hi, fun k hk => Classical.byContradiction fun hk2 => e ⟨k, hk, hk2⟩⟩
    obtain ⟨i0, l1, l2, l3⟩ := lp i hci
    have s1 := hI.mul (g ^ (m0 - 1 - i0)) hs
    rw [← rs_mul] at s1
    have t := rs_one hI (i := i0) (n + 1) (by omega) (fun k hk hne => ?_) s1
    · have t2 : I ((c i0 : R) * (b * g ^ (m0 - 1))) := hI.eq t (by
        have e : m0 - 1 = (m0 - 1 - i0) + i0 := by omega
        generalize m0 - 1 - i0 = u at *
        rw [e, pw_a]; grind)
      exact hl (m0 - 1) (by omega) (hI.can hp l2 t2)
    · rcases Nat.lt_or_ge k i0 with hk2 | hk2
      · obtain ⟨q, hq⟩ := Nat.dvd_of_mod_eq_zero (l3 k hk2)
        rw [hq, nc_mul]
        exact hI.eq (hI.mul (g ^ (m0 - 1 - i0) * (q : R) * (b * g ^ k)) hI.p) (by grind)
      · have := up (m0 - 1 - i0 + k) (by omega)
        exact hI.eq (hI.mul (c k : R) this) (by rw [pw_a]; grind)
  · exact up n hn
end
end W

namespace W
/-! the rounds after which a stand comes again: a multiple of each -/
section
open Lean.Grind
local instance ncast4 {R : Type} [CommRing R] : NatCast R := Semiring.natCast
theorem gen_zero {P : Int} {f : Sq → Sq} (hf : Gen f) : ∀ {a : Sq}, (∀ j, Em P (a j) 0) → ∀ j, Em P (f a j) 0 := by
  induction hf with
  | cst c => intro a h j; exact (Em.mul Em.refl (h j)).trans (Em.of_eq (Int.mul_zero c))
  | sh => intro a h j; exact h (j + 1)
  | add h1 h2 i1 i2 => intro a h j; exact (Em.add (i1 h j) (i2 h j)).trans (Em.of_eq rfl)
  | mul h1 h2 i1 i2 => intro a h j; exact i1 (i2 h) j
theorem Ide.quo {R : Type} [CommRing R] {I : R → Prop} {p : Nat} (hI : Ide I p) (u : R) : Ide (fun a => I (u * a)) p where
  add := fun {a b} ha hb => hI.eq (hI.add ha hb) (by grind)
  mul := fun {a} b ha => hI.eq (hI.mul b ha) (by grind)
  p := hI.mul u hI.p
def bx (P : Int) (t : List (List Int)) (s : List Int) (x : Nat) : Sq := fun j => (orbV P t s j ++ [1]).getD x 0
def mat (n : Nat) (t : List (List Int)) (x y : Nat) : Int := if x < n then (t.getD x []).getD y 0 else if y = x then 1 else 0
/-- sequences that go on by the table -/
def Fam (P : Int) (n : Nat) (t : List (List Int)) (a : Nat → Sq) : Prop := ∀ x j, x < n + 1 → Em P (a x (j + 1)) (sm (n + 1) fun y => mat n t x y * a y j)
theorem fam_gen {P : Int} {n : Nat} {t : List (List Int)} {f : Sq → Sq} (hf : Gen f) : ∀ {a : Nat → Sq}, Fam P n t a → Fam P n t fun x => f (a x) := by
  induction hf with
  | cst c =>
    intro a h x j hx
    refine (Em.mul (Em.refl (a := c)) (h x j hx)).trans (Em.of_eq ?_)
    rw [← sm_mulL]
    exact sm_congr fun y _ => Int.mul_left_comm _ _ _
  | sh => intro a h x j hx; exact h x (j + 1) hx
  | add h1 h2 i1 i2 =>
    intro a h x j hx
    refine (Em.add (i1 h x j hx) (i2 h x j hx)).trans (Em.of_eq ?_)
    rw [← sm_add]
    exact sm_congr fun y _ => (Int.mul_add _ _ _).symm
  | mul h1 h2 i1 i2 => intro a h; exact i1 (i2 h)
def InI (P : Int) (n : Nat) (t : List (List Int)) (s : List Int) (f : Opr) : Prop := ∀ x j, x < n + 1 → Em P (f.1 (bx P t s x) j) 0
theorem rs_at (g : Nat → Opr) (a : Sq) (j : Nat) : ∀ k, (rs k g).1 a j = sm k fun i => (g i).1 a j
  | 0 => Opr.zero_at a j
  | k + 1 => by show (rs k g).1 a j + (g k).1 a j = _; rw [rs_at g a j k]; rfl
theorem sh_at (a : Sq) : ∀ k j : Nat, (Opr.sh ^ k).1 a j = a (j + k)
  | 0, j => by rw [pw_z]; exact Opr.one_at a j
  | k + 1, j => by rw [pw_s]; show (Opr.sh ^ k).1 (Opr.sh.1 a) j = _; rw [sh_at (Opr.sh.1 a) k j]; rfl
theorem nc_at (c : Nat) (f : Opr) (a : Sq) (j : Nat) : ((c : Opr) * f).1 a j = (c : Int) * f.1 a j := rfl
theorem sub_at (f g : Opr) (a : Sq) (j : Nat) : (f - g).1 a j = f.1 a j - g.1 a j := by
  show f.1 a j + -1 * g.1 a j = _; omega
variable {P : Int} {n : Nat} {t : List (List Int)} {s : List Int} (hp : Prm P) (h : Tbl P n t) (hs : RowOn P n s)
omit h hs in
include hp in
theorem prN : PrN P.toNat := ⟨by have := hp.lo; omega, fun d d2 dp hd => by
  have p3 := hp.lo
  refine hp.no (d : Int) (by omega) (by omega) (Int.emod_eq_zero_of_dvd ?_)
  have := Int.natCast_dvd_natCast.mpr hd
  rwa [Int.toNat_of_nonneg (by omega)] at this⟩
include hp h hs
theorem bx_fam : Fam P n t (bx P t s) := fun x j hx => by
  have ho := orb_on hp h hs j
  have e : orbV P t s (j + 1) ++ [1] = liftT P n t (orbV P t s j ++ [1]) := (lift_one h ho.1).symm
  unfold bx
  rw [e]
  by_cases hxn : x < n
  · rw [lift_get hxn]
    refine Em.mod.trans (Em.of_eq ?_)
    unfold dotV
    refine sm_congr fun y _ => ?_
    unfold mat
    rw [if_pos hxn]
  · have : x = n := by omega
    subst this
    rw [lift_last]
    refine Em.of_eq ?_
    have e2 : (sm (x + 1) fun y => mat x t x y * (orbV P t s j ++ [1]).getD y 0) = sm (x + 1) fun y => if y = x then (orbV P t s j ++ [1]).getD y 0 else 0 := sm_congr fun y _ => by
      unfold mat
      rw [if_neg hxn]
      split
      · rw [Int.one_mul]
      · rw [Int.zero_mul]
    rw [e2, sm_pick, if_pos (Nat.lt_succ_self x)]
theorem in_zero {f : Opr} (h0 : ∀ x, x < n + 1 → Em P (f.1 (bx P t s x) 0) 0) : InI P n t s f := fun x j => by
  induction j generalizing x with
  | zero => exact h0 x
  | succ j ih =>
    intro hx
    refine (fam_gen f.2 (bx_fam hp h hs) x j hx).trans ?_
    refine (Em.sm (h := fun _ => 0) fun y hy => (Em.mul Em.refl (ih y hy)).trans (Em.of_eq (Int.mul_zero _))).trans (Em.of_eq sm_zero)
omit h hs in
theorem in_ide : Ide (InI P n t s) P.toNat where
  add := fun {a b} ha hb x j hx => (Em.add (ha x j hx) (hb x j hx)).trans (Em.of_eq rfl)
  mul := fun {a} b ha x j hx => gen_zero b.2 (fun j => ha x j hx) j
  p := fun x j hx => by
    have p3 := hp.lo
    show Em P ((P.toNat : Int) * bx P t s x j) 0
    rw [Int.toNat_of_nonneg (by omega)]
    unfold Em
    rw [Int.mul_emod_right, Int.zero_emod]
theorem bx_last (j : Nat) : bx P t s n j = 1 := by
  have ho := orb_on hp h hs j
  unfold bx
  exact last_get ho.1
theorem in_dep : Dep (fun f => InI P n t s ((Opr.sh - 1) * f)) P.toNat n := fun f => by
  have p3 := hp.lo
  let g : Nat → Nat → Int := fun i x => ((Opr.sh - 1) * f i).1 (bx P t s x) 0
  let rows : List (List Int) := (List.range (n + 1)).map fun i => (List.range n).map fun x => g i x % P
  have rl : rows.length = n + 1 := by simp [rows]
  have rg : ∀ i x, i < n + 1 → x < n → (rows.getD i []).getD x 0 = g i x % P := fun i x hi hx => by
    rw [show rows.getD i [] = (List.range n).map fun x => g i x % P from getD_rangeMap _ _ hi, getD_rangeMap _ _ hx]
  have hr : RowsOn P n rows := fun r hr => by
    obtain ⟨i, _, rfl⟩ := List.mem_map.mp hr
    refine ⟨by simp, fun y hy => ?_⟩
    obtain ⟨x, _, rfl⟩ := List.mem_map.mp hy
    exact ⟨Int.emod_nonneg _ (by omega), Int.emod_lt_of_pos _ (by omega)⟩
  have ic := idle_count hp hr
  have sl := steps_le (stepsForm_ok hp hr).1
  have st := idle_steps hp hr
  obtain ⟨v, hv⟩ : ∃ v, v ∈ idleSums P n rows := by
    cases e : idleSums P n rows with
    | nil => rw [e, rl] at ic; simp at ic; omega
    | cons v l => exact ⟨v, List.mem_cons_self⟩
  obtain ⟨vl, vo, vz⟩ := idle_null hp hr hv
  have l1 := st.lt v hv
  have l2 := st.one v hv
  rw [rl] at l1 vl vz
  have von : ∀ i, i < n + 1 → 0 ≤ v.getD i 0 := fun i hi => (on_get vo (by rw [vl]; exact hi)).1
  refine ⟨fun i => (v.getD i 0).toNat, ⟨lead v, by omega, ?_⟩, ?_⟩
  · show (v.getD (lead v) 0).toNat % P.toNat ≠ 0
    rw [l2, Nat.mod_eq_of_lt (show (1 : Int).toNat < P.toNat by omega)]
    decide
  · refine in_zero hp h hs fun x hx => ?_
    have e : (Opr.sh - 1) * (rs (n + 1) fun i => (((v.getD i 0).toNat : Nat) : Opr) * f i) = rs (n + 1) fun i => (((v.getD i 0).toNat : Nat) : Opr) * ((Opr.sh - 1) * f i) := by
      rw [← rs_mul]
      refine rs_congr _ fun k _ => ?_
      generalize (((v.getD k 0).toNat : Nat) : Opr) = c
      generalize f k = fk
      grind
    rw [e, rs_at]
    by_cases hxn : x < n
    · refine Em.symm ((vz x hxn).trans ?_)
      refine Em.sm fun i hi => ?_
      rw [rg i x hi hxn, nc_at, Int.toNat_of_nonneg (von i hi)]
      exact Em.mul Em.refl Em.mod
    · have : x = n := by omega
      subst this
      refine Em.of_eq ((sm_congr (h := fun _ => 0) fun i hi => ?_).trans sm_zero)
      rw [nc_at]
      have z : ((Opr.sh - 1) * f i).1 (bx P t s x) 0 = 0 := by
        have c : (Opr.sh - 1) * f i = f i * (Opr.sh - 1) := by grind
        rw [c]
        show (f i).1 ((Opr.sh - 1).1 (bx P t s x)) 0 = 0
        have e0 : (Opr.sh - 1).1 (bx P t s x) = fun _ => 0 := funext fun j => by
          rw [sub_at, Opr.one_at]
          show bx P t s x (j + 1) - bx P t s x j = 0
          rw [bx_last hp h hs, bx_last hp h hs]
          rfl
        rw [e0, Opr.nil]
      rw [z, Int.mul_zero]
/-- the length that all rings divide, less the powers of P -/
def ringL (p n : Nat) : Nat := (p - 1) * (if 1 < n then p + 1 else 1) * (if 2 < n then p * p + p + 1 else 1)
omit hp h hs in
theorem ringL_dvd {p n : Nat} (p1 : 1 ≤ p) (hn : n ≤ 3) : ∀ d, 1 ≤ d → d ≤ n → (p ^ d - 1) ∣ ringL p n := fun d d1 dn => by
  obtain ⟨q, rfl⟩ : ∃ q, p = q + 1 := ⟨p - 1, by omega⟩
  unfold ringL
  rcases (show d = 1 ∨ d = 2 ∨ d = 3 by omega) with rfl | rfl | rfl
  · rw [Nat.pow_one, Nat.mul_assoc]
    exact Nat.dvd_mul_right _ _
  · rw [if_pos (show 1 < n by omega)]
    have e : (q + 1) ^ 2 - 1 = (q + 1 - 1) * (q + 1 + 1) := by
      rw [Nat.pow_succ, Nat.pow_one, Nat.add_sub_cancel]
      have : (q + 1) * (q + 1) = q * (q + 1 + 1) + 1 := by grind
      omega
    rw [e]
    exact Nat.dvd_mul_right _ _
  · rw [if_pos (show 2 < n by omega), if_pos (show 1 < n by omega)]
    have e : (q + 1) ^ 3 - 1 = (q + 1 - 1) * ((q + 1) * (q + 1) + (q + 1) + 1) := by
      rw [Nat.pow_succ, Nat.pow_succ, Nat.pow_one, Nat.add_sub_cancel]
      have : (q + 1) * (q + 1) * (q + 1) = q * ((q + 1) * (q + 1) + (q + 1) + 1) + 1 := by grind
      omega
    rw [e]
    exact ⟨q + 1 + 1, by grind⟩
theorem orb_per0 (n1 : 1 ≤ n) (n3 : n ≤ 3) {e : Nat} (he : n + 1 ≤ P.toNat ^ e) : orbV P t s (n + ringL P.toNat n * P.toNat ^ e) = orbV P t s n := by
  have p3 := hp.lo
  have hpN := prN hp
  have hI := in_ide (n := n) (t := t) (s := s) hp
  have hJ := hI.quo (Opr.sh - 1)
  have hd := in_dep hp h hs
  have hL := ringL_dvd (p := P.toNat) (n := n) (by omega) n3
  generalize hLL : ringL P.toNat n = L at *
  obtain ⟨s1, m, hm⟩ : ∃ s1 m : Nat, InI P n t s ((Opr.sh - 1) * (Opr.sh ^ s1 * (Opr.sh ^ L - 1) ^ m)) := by
    obtain ⟨c, ⟨i, hi, hci⟩, hc⟩ := hd fun i => Opr.sh ^ i
    have x1 : Opr.sh ^ 1 = Opr.sh := by rw [pw_s, pw_z]; grind
    have x0 : Opr.sh ^ 0 = 1 := pw_z _
    rcases (show n = 1 ∨ n = 2 ∨ n = 3 by omega) with rfl | rfl | rfl
    · have e : rs (1 + 1) (fun i => ((c i : Nat) : Opr) * Opr.sh ^ i) = ((c 0 : Nat) : Opr) + ((c 1 : Nat) : Opr) * Opr.sh + ((0 : Nat) : Opr) * Opr.sh ^ 2 + ((0 : Nat) : Opr) * Opr.sh ^ 3 := by
        show 0 + ((c 0 : Nat) : Opr) * Opr.sh ^ 0 + ((c 1 : Nat) : Opr) * Opr.sh ^ 1 = _
        rw [x1, x0, nc_zero]; grind
      exact pow_in hJ hpN (by decide) hL (.inr (Nat.zero_mod _)) (.inr (Nat.zero_mod _)) (.inl (by decide)) (by
        rcases (show i = 0 ∨ i = 1 by omega) with rfl | rfl
        · exact .inl hci
        · exact .inr (.inl hci)) (hJ.eq hc e)
    · have e : rs (2 + 1) (fun i => ((c i : Nat) : Opr) * Opr.sh ^ i) = ((c 0 : Nat) : Opr) + ((c 1 : Nat) : Opr) * Opr.sh + ((c 2 : Nat) : Opr) * Opr.sh ^ 2 + ((0 : Nat) : Opr) * Opr.sh ^ 3 := by
        show 0 + ((c 0 : Nat) : Opr) * Opr.sh ^ 0 + ((c 1 : Nat) : Opr) * Opr.sh ^ 1 + ((c 2 : Nat) : Opr) * Opr.sh ^ 2 = _
        rw [x1, x0, nc_zero]; grind
      exact pow_in hJ hpN (by decide) hL (.inl (by decide)) (.inr (Nat.zero_mod _)) (.inl (by decide)) (by
        rcases (show i = 0 ∨ i = 1 ∨ i = 2 by omega) with rfl | rfl | rfl
        · exact .inl hci
        · exact .inr (.inl hci)
        · exact .inr (.inr (.inl hci))) (hJ.eq hc e)
    · have e : rs (3 + 1) (fun i => ((c i : Nat) : Opr) * Opr.sh ^ i) = ((c 0 : Nat) : Opr) + ((c 1 : Nat) : Opr) * Opr.sh + ((c 2 : Nat) : Opr) * Opr.sh ^ 2 + ((c 3 : Nat) : Opr) * Opr.sh ^ 3 := by
        show 0 + ((c 0 : Nat) : Opr) * Opr.sh ^ 0 + ((c 1 : Nat) : Opr) * Opr.sh ^ 1 + ((c 2 : Nat) : Opr) * Opr.sh ^ 2 + ((c 3 : Nat) : Opr) * Opr.sh ^ 3 = _
        rw [x1, x0]; grind
      exact pow_in hJ hpN (by decide) hL (.inl (by decide)) (.inl (by decide)) (.inl (by decide)) (by
        rcases (show i = 0 ∨ i = 1 ∨ i = 2 ∨ i = 3 by omega) with rfl | rfl | rfl | rfl
        · exact .inl hci
        · exact .inr (.inl hci)
        · exact .inr (.inr (.inl hci))
        · exact .inr (.inr (.inr hci))) (hJ.eq hc e)
  have f1 := few hJ hpN hd (Opr.sh ^ s1) (Opr.sh ^ L - 1) hm
  have f2 := few hJ hpN hd ((Opr.sh ^ L - 1) ^ n) Opr.sh (m := s1) (hJ.eq f1 (by
    generalize Opr.sh ^ s1 = u
    generalize (Opr.sh ^ L - 1) ^ n = v
    grind))
  obtain ⟨q, hq⟩ := geo Opr.sh 1 L
  rw [Nat.one_mul, show Opr.sh ^ 1 = Opr.sh by rw [pw_s, pw_z]; grind] at hq
  have f3 : InI P n t s (Opr.sh ^ n * (Opr.sh ^ L - 1) ^ (n + 1)) := hI.eq (hI.mul q f2) (by
    rw [pw_s]
    have e : ∀ z : Opr, q * ((Opr.sh - 1) * z) = (Opr.sh ^ L - 1) * z := fun z => by rw [hq]; grind
    rw [e]
    generalize (Opr.sh ^ L - 1) ^ n = v
    generalize Opr.sh ^ L - 1 = y
    generalize Opr.sh ^ n = u
    grind)
  have f4 : InI P n t s (Opr.sh ^ n * (Opr.sh ^ L - 1) ^ (P.toNat ^ e)) := hI.eq (hI.mul ((Opr.sh ^ L - 1) ^ (P.toNat ^ e - (n + 1))) f3) (by
    have e1 : P.toNat ^ e = (P.toNat ^ e - (n + 1)) + (n + 1) := by omega
    generalize P.toNat ^ e - (n + 1) = d at *
    rw [e1, pw_a _ d (n + 1)]
    generalize (Opr.sh ^ L - 1) ^ (n + 1) = v
    generalize (Opr.sh ^ L - 1) ^ d = y
    generalize Opr.sh ^ n = u
    grind)
  have f5 := sub_pwi hI hpN (Opr.sh ^ L) 1 e
  rw [one_pw, ← pw_m] at f5
  have f6 : InI P n t s (Opr.sh ^ (L * P.toNat ^ e + n) - Opr.sh ^ n) := hI.eq (hI.sub f4 (hI.mul (Opr.sh ^ n) f5)) (by
    rw [pw_a]
    generalize (Opr.sh ^ L - 1) ^ (P.toNat ^ e) = v
    generalize Opr.sh ^ (L * P.toNat ^ e) = y
    generalize Opr.sh ^ n = u
    grind)
  have o1 := orb_on hp h hs (n + L * P.toNat ^ e)
  have o2 := orb_on hp h hs n
  refine vext hp.one o1 o2 fun x hx => ?_
  have z := f6 x 0 (by omega)
  rw [sub_at, sh_at, sh_at, Nat.zero_add, Nat.zero_add] at z
  have z2 := (Em.add z (Em.refl (a := bx P t s x n))).trans (Em.of_eq (Int.zero_add _))
  rw [Int.sub_add_cancel] at z2
  unfold bx at z2
  rw [Nat.add_comm (L * P.toNat ^ e) n, head_get o1.1 hx, head_get o2.1 hx] at z2
  exact z2
end
end W

namespace W
/-! a ring's length and its primes -/
theorem PrimeI.fac {q a b : Int} (h : PrimeI q) (e : q = a * b) (ha : 2 ≤ a) (hb : 2 ≤ b) : False := by
  rcases Int.le_total a b with z | z
  · refine h.2 a ha (by rw [e]; exact Int.mul_le_mul_of_nonneg_left z (by omega)) ?_
    rw [e]; exact Int.mul_emod_right a b
  · refine h.2 b hb (by rw [e]; exact Int.mul_le_mul_of_nonneg_right z (by omega)) ?_
    rw [e]; exact Int.mul_emod_left a b
/-- a prime divides one of two that it divides together -/
theorem PrimeI.euc {q a b : Int} (h : PrimeI q) (hd : q ∣ a * b) : q ∣ a ∨ q ∣ b := by
  have q2 := h.1
  by_cases ha : q ∣ a
  · exact .inl ha
  · refine .inr ?_
    have g1 : Int.gcd q a = 1 := by
      refine Classical.byContradiction fun hne => ?_
      have d1 : (Int.gcd q a : Int) ∣ q := Int.gcd_dvd_left ..
      have d2 : (Int.gcd q a : Int) ∣ a := Int.gcd_dvd_right ..
      have g0 : 0 < Int.gcd q a := Int.gcd_pos_of_ne_zero_left a (by omega)
      obtain ⟨k, hk⟩ := d1
      generalize Int.gcd q a = g at *
      have k0 : 0 < k := by
        rcases Int.lt_or_le 0 k with z | z
        · exact z
        · have := Int.mul_le_mul_of_nonneg_left z (show (0 : Int) ≤ (g : Int) by omega)
          omega
      by_cases k1 : k = 1
      · subst k1
        rw [Int.mul_one] at hk
        rw [← hk] at d2
        exact ha d2
      · exact h.fac hk (by omega) (by omega)
    exact Int.natAbs_dvd_natAbs.mp (Nat.Coprime.dvd_of_dvd_mul_left (show Nat.gcd q.natAbs a.natAbs = 1 by rw [← Int.gcd_eq_natAbs_gcd_natAbs]; exact g1) (by rw [← Int.natAbs_mul]; exact Int.natAbs_dvd_natAbs.mpr hd))
theorem PrimeI.eq {q p : Int} (h : PrimeI q) (k : PrimeI p) (hd : q ∣ p) : q = p := by
  obtain ⟨c, hc⟩ := hd
  have q2 := h.1
  have p2 := k.1
  have c0 : 0 < c := by
    rcases Int.lt_or_le 0 c with z | z
    · exact z
    · have := Int.mul_le_mul_of_nonneg_left z (show 0 ≤ q by omega)
      omega
  by_cases c1 : c = 1
  · rw [hc, c1, Int.mul_one]
  · exact (k.fac hc (by omega) (by omega)).elim
/-- each number above 1 has a prime -/
theorem prime_ex : ∀ (m : Nat) (n : Int), 2 ≤ n → n.toNat ≤ m → ∃ q, PrimeI q ∧ q ∣ n
  | 0, n, h, hm => by omega
  | m + 1, n, h, hm => by
    by_cases hp : PrimeI n
    · exact ⟨n, hp, Int.dvd_refl n⟩
    · have : ∃ d, 2 ≤ d ∧ d * d ≤ n ∧ n % d = 0 := Classical.byContradiction fun no => hp ⟨h, fun d h1 h2 h3 => no ⟨d, h1, h2, h3⟩⟩
      obtain ⟨d, d2, dd, dn⟩ := this
      have dl : d < n := by
        have := Int.mul_le_mul_of_nonneg_right d2 (show 0 ≤ d by omega)
        omega
      obtain ⟨q, h1, h2⟩ := prime_ex m d d2 (by omega)
      exact ⟨q, h1, Int.dvd_trans h2 (Int.dvd_of_emod_eq_zero dn)⟩
theorem strip_keep {q p : Int} (hq : PrimeI q) (hp : PrimeI p) (hne : q ≠ p) : ∀ (f : Nat) (n : Int), q ∣ n → q ∣ strip p f n
  | 0, n, h => h
  | f + 1, n, h => by
    show q ∣ if n % p = 0 then strip p f (n / p) else n
    split
    · next h0 =>
      refine strip_keep hq hp hne f _ ?_
      obtain ⟨k, rfl⟩ := Int.dvd_of_emod_eq_zero h0
      rw [Int.mul_ediv_cancel_left _ (by have := hp.1; omega)]
      rcases hq.euc h with z | z
      · exact absurd (hq.eq hp z) hne
      · exact z
    · exact h
/-- all primes of n are told -/
theorem chain_all : ∀ {l : List Int} {n lo : Int}, PChain n l lo → ∀ {q : Int}, PrimeI q → q ∣ n → q ∈ l
  | [], n, lo, h, q, hq, hd => by
    have : n = 1 := h
    subst this
    have := Int.le_of_dvd (by decide) hd
    have := hq.1
    omega
  | p :: l, n, lo, h, q, hq, hd => by
    rw [PChain] at h
    by_cases e : q = p
    · rw [e]; exact List.mem_cons_self
    · exact List.mem_cons_of_mem _ (chain_all h.2.2.2 hq (strip_keep hq h.2.2.1 e _ _ hd))
theorem chain_mem : ∀ {l : List Int} {n lo : Int}, PChain n l lo → 1 ≤ n → ∀ {q : Int}, q ∈ l → PrimeI q ∧ q ∣ n
  | p :: l, n, lo, h, hn, q, hq => by
    rw [PChain] at h
    rcases List.mem_cons.mp hq with rfl | z
    · exact ⟨h.2.2.1, Int.dvd_of_emod_eq_zero h.2.1⟩
    · obtain ⟨f1, f2, f3, f4⟩ := stripI_facts h.2.2.1.1 hn
      obtain ⟨a, b⟩ := chain_mem h.2.2.2 f1 z
      exact ⟨a, Int.dvd_trans b f3⟩
/-- a rising list of just the primes of n -/
theorem chain_of : ∀ {l : List Int} {n lo : Int}, 1 ≤ n → l.Pairwise (· < ·) → (∀ q ∈ l, lo ≤ q ∧ PrimeI q ∧ q ∣ n) → (∀ q, PrimeI q → q ∣ n → q ∈ l) → PChain n l lo
  | [], n, lo, hn, _, _, ha => by
    show n = 1
    refine Classical.byContradiction fun hne => ?_
    obtain ⟨q, h1, h2⟩ := prime_ex n.toNat n (by omega) (Nat.le_refl _)
    exact nomatch ha q h1 h2
  | p :: l, n, lo, hn, hs, hm, ha => by
    rw [PChain]
    obtain ⟨m1, m2, m3⟩ := hm p List.mem_cons_self
    obtain ⟨f1, f2, f3, f4⟩ := stripI_facts m2.1 hn
    rw [List.pairwise_cons] at hs
    refine ⟨m1, Int.emod_eq_zero_of_dvd m3, m2, chain_of f1 hs.2 (fun q hq => ?_) fun q hq hd => ?_⟩
    · obtain ⟨n1, n2, n3⟩ := hm q (List.mem_cons_of_mem _ hq)
      have lt := hs.1 q hq
      exact ⟨by omega, n2, strip_keep n2 m2 (by omega) _ _ n3⟩
    · rcases List.mem_cons.mp (ha q hq (Int.dvd_trans hd f3)) with rfl | z
      · exact absurd (Int.emod_eq_zero_of_dvd hd) f4
      · exact z
/-- so many primes at most -/
theorem chain_few : ∀ {l : List Int} {n lo : Int}, PChain n l lo → 1 ≤ n → (2 : Int) ^ l.length ≤ n
  | [], n, lo, h, hn => hn
  | p :: l, n, lo, h, hn => by
    rw [PChain] at h
    have p2 := h.2.2.1.1
    obtain ⟨f1, f2, f3, f4⟩ := stripI_facts p2 hn
    have ih := chain_few h.2.2.2 f1
    have d := div_small hn p2 h.2.1
    have s : stripI p n ≤ n / p := by
      obtain ⟨k, k1, k2, k3, k4, k5⟩ := stripI_ok p2 hn
      rw [k3]
      cases k with
      | zero => exact absurd h.2.1 k2
      | succ k =>
        rw [divs_front]
        obtain ⟨k', _, b2, b3, b4, _⟩ := stripI_ok p2 d.1
        have key : ∀ i, i ≤ k → 1 ≤ divs (n / p) p i → divs (n / p) p i ≤ n / p := fun i => by
          induction i with
          | zero => intro _ _; exact Int.le_refl _
          | succ i ih =>
            intro hi h1
            have h2 : 1 ≤ divs (n / p) p i := by
              have := (k4 (i + 1) (by omega)).1
              rwa [divs_front] at this
            have h3 : divs (n / p) p (i + 1) = divs (n / p) p i / p := rfl
            have h4 := Int.ediv_le_self p (show 0 ≤ divs (n / p) p i by omega)
            have := ih (by omega) h2
            omega
        have h1 := (k4 (k + 1) (Nat.le_refl _)).1
        rw [divs_front] at h1
        exact key k (Nat.le_refl _) h1
    rw [List.length_cons, Int.pow_succ]
    have := d.2.2
    have h2 : (2 : Int) ^ l.length * 2 ≤ stripI p n * 2 := Int.mul_le_mul_of_nonneg_right ih (by decide)
    have h3 : stripI p n * 2 ≤ (n / p) * 2 := Int.mul_le_mul_of_nonneg_right s (by decide)
    have h4 : (n / p) * 2 ≤ (n / p) * p := Int.mul_le_mul_of_nonneg_left p2 (by omega)
    have h5 : (n / p) * p = p * (n / p) := Int.mul_comm _ _
    omega
/-! the keys of the dict -/
def pk (ks : List Int) (q : Int) : List Int := if q ∈ ks then ks else ks ++ [q]
def addPs (ks qs : List Int) : List Int := qs.foldl pk ks
theorem pk_mem {ks : List Int} {q x : Int} : x ∈ pk ks q ↔ x ∈ ks ∨ x = q := by
  unfold pk
  split
  · next h => exact ⟨.inl, fun z => z.elim id fun e => e ▸ h⟩
  · simp
theorem pk_len (ks : List Int) (q : Int) : (pk ks q).length ≤ ks.length + 1 := by
  unfold pk
  split
  · omega
  · simp
theorem pk_nd {ks : List Int} {q : Int} (h : ks.Nodup) : (pk ks q).Nodup := by
  unfold pk
  split
  · exact h
  · next hq =>
    rw [List.nodup_append]
    refine ⟨h, by simp, fun a ha b hb => ?_⟩
    rw [List.mem_singleton.mp hb]
    rintro rfl
    exact hq ha
theorem add_mem : ∀ {qs ks : List Int} {x : Int}, x ∈ addPs ks qs ↔ x ∈ ks ∨ x ∈ qs
  | [], ks, x => by simp [addPs]
  | q :: qs, ks, x => by
    show x ∈ addPs (pk ks q) qs ↔ _
    rw [add_mem, pk_mem, List.mem_cons, or_assoc]
theorem add_nd : ∀ {qs ks : List Int}, ks.Nodup → (addPs ks qs).Nodup
  | [], ks, h => h
  | q :: qs, ks, h => add_nd (qs := qs) (pk_nd h)
theorem add_len : ∀ (qs ks : List Int), (addPs ks qs).length ≤ ks.length + qs.length
  | [], ks => by simp [addPs]
  | q :: qs, ks => by
    have := add_len qs (pk ks q)
    have := pk_len ks q
    show (addPs (pk ks q) qs).length ≤ _
    rw [List.length_cons]; omega
theorem add_take {ks qs : List Int} {i : Nat} (h : i < qs.length) : addPs ks (qs.take (i + 1)) = pk (addPs ks (qs.take i)) qs[i] := by
  unfold addPs
  rw [List.take_succ_eq_append_getElem h, List.foldl_append]
  rfl
/-! the parts of the span -/
def spanParts (P : Int) (n : Nat) : List Int := [P, P - 1] ++ (if 1 < n then [P + 1] else []) ++ (if 2 < n then [P * P + P + 1] else []) ++ (if P ≤ n then [P] else [])
noncomputable def keysUpTo (ps : List Int) (i : Nat) : List Int := (ps.take i).foldl (fun ks part => addPs ks (primesOf part)) []
def prodUpTo (ps : List Int) (i : Nat) : Int := (ps.take i).foldl (· * ·) 1
theorem keys_succ {ps : List Int} {i : Nat} (h : i < ps.length) : keysUpTo ps (i + 1) = addPs (keysUpTo ps i) (primesOf ps[i]) := by
  unfold keysUpTo
  rw [List.take_succ_eq_append_getElem h, List.foldl_append]
  rfl
theorem prod_succ {ps : List Int} {i : Nat} (h : i < ps.length) : prodUpTo ps (i + 1) = prodUpTo ps i * ps[i] := by
  unfold prodUpTo
  rw [List.take_succ_eq_append_getElem h, List.foldl_append]
  rfl
theorem keys_nd {ps : List Int} : ∀ i, i ≤ ps.length → (keysUpTo ps i).Nodup
  | 0, _ => by simp [keysUpTo]
  | i + 1, h => by rw [keys_succ (by omega)]; exact add_nd (keys_nd i (by omega))
theorem keys_mem {ps : List Int} {q : Int} : ∀ i, i ≤ ps.length → (q ∈ keysUpTo ps i ↔ ∃ (j : Nat) (h : j < ps.length), j < i ∧ q ∈ primesOf ps[j])
  | 0, _ => by simp [keysUpTo]
  | i + 1, h => by
    rw [keys_succ (by omega), add_mem, keys_mem i (by omega)]
    constructor
    · rintro (⟨j, h1, h2, h3⟩ | z)
      · exact ⟨j, h1, by omega, h3⟩
      · exact ⟨i, by omega, by omega, z⟩
    · rintro ⟨j, h1, h2, h3⟩
      by_cases e : j = i
      · subst e; exact .inr h3
      · exact .inl ⟨j, h1, by omega, h3⟩
/-- all primes of the product are keys -/
theorem keys_prod {ps : List Int} (h1 : ∀ x ∈ ps, 1 ≤ x ∧ x ≤ 1000000000) {q : Int} (hq : PrimeI q) : ∀ i, i ≤ ps.length → q ∣ prodUpTo ps i → q ∈ keysUpTo ps i
  | 0, _, hd => by
    have hd1 : q ∣ 1 := hd
    have := Int.le_of_dvd (by decide) hd1
    have := hq.1
    omega
  | i + 1, h, hd => by
    rw [prod_succ (by omega)] at hd
    rw [keys_succ (by omega), add_mem]
    rcases hq.euc hd with z | z
    · exact .inl (keys_prod h1 hq i (by omega) z)
    · obtain ⟨a, b⟩ := h1 ps[i] (List.getElem_mem _)
      exact .inr (chain_all (primesOf_chain a b) hq z)
end W

namespace W
open LR
/-! the ring of a stand -/
section
variable {P : Int} {n : Nat} {t : List (List Int)} {s : List Int}
theorem orb_add (a : Nat) : ∀ b, orbV P t s (a + b) = orbV P t (orbV P t s a) b
  | 0 => rfl
  | b + 1 => by show turned P t (orbV P t s (a + b)) = _; rw [orb_add a b]; rfl
/-- so many rounds lead to the stand itself -/
def Per (P : Int) (t : List (List Int)) (s : List Int) (m : Nat) : Prop := orbV P t s m = s
theorem per_zero : Per P t s 0 := rfl
theorem Per.add {a b : Nat} (h : Per P t s a) (k : Per P t s b) : Per P t s (a + b) := by
  unfold Per; rw [orb_add, h, k]
theorem Per.mul {a : Nat} (h : Per P t s a) : ∀ k, Per P t s (a * k)
  | 0 => per_zero
  | k + 1 => (Per.mul h k).add h
theorem Per.dvd {a b : Nat} (h : Per P t s a) (hd : a ∣ b) : Per P t s b := by obtain ⟨k, rfl⟩ := hd; exact h.mul k
theorem Per.sub {a b : Nat} (h : Per P t s a) (k : Per P t s b) (hl : a ≤ b) : Per P t s (b - a) := by
  have e : orbV P t s (a + (b - a)) = orbV P t s b := by rw [Nat.add_sub_cancel' hl]
  rw [orb_add, h, k] at e
  exact e
theorem Per.gcd : ∀ (m a b : Nat), a + b ≤ m → Per P t s a → Per P t s b → Per P t s (Nat.gcd a b)
  | 0, a, b, h, ha, hb => by
    have : a = 0 := by omega
    subst this
    rw [Nat.gcd_zero_left]; exact hb
  | m + 1, a, b, h, ha, hb => by
    rcases Nat.eq_zero_or_pos a with z | a0
    · subst z; rw [Nat.gcd_zero_left]; exact hb
    rcases Nat.eq_zero_or_pos b with z | b0
    · subst z; rw [Nat.gcd_zero_right]; exact ha
    rcases Nat.le_total a b with z | z
    · have := Per.gcd m a (b - a) (by omega) ha (ha.sub hb z)
      rwa [Nat.gcd_sub_self_right z] at this
    · have := Per.gcd m (a - b) b (by omega) (hb.sub ha z) hb
      rwa [Nat.gcd_sub_self_left z] at this
/-- r made smaller by a prime as long as it goes -/
def perB (P : Int) (t : List (List Int)) (s : List Int) (m : Int) : Bool := decide (orbV P t s m.toNat = s)
def red (g : Int → Bool) (q : Int) : Nat → Int → Int
  | 0, r => r
  | f + 1, r => if r % q = 0 ∧ g (r / q) = true then red g q f (r / q) else r
theorem red_ok {g : Int → Bool} {q : Int} (hq : 2 ≤ q) : ∀ (f : Nat) (r : Int), 1 ≤ r → r.toNat ≤ f → g r = true → ∃ k, (∀ i, i < k → divs r q i % q = 0 ∧ g (divs r q i / q) = true) ∧ ¬ (divs r q k % q = 0 ∧ g (divs r q k / q) = true) ∧ red g q f r = divs r q k ∧ (∀ i, i ≤ k → 1 ≤ divs r q i ∧ divs r q i ≤ r) ∧ divs r q k ∣ r ∧ g (divs r q k) = true
  | 0, r, h, h2, _ => by omega
  | f + 1, r, h, h2, hg => by
    by_cases hd : r % q = 0 ∧ g (r / q) = true
    · obtain ⟨a, b, c⟩ := div_small h hq hd.1
      obtain ⟨k, k1, k2, k3, k4, k5, k6⟩ := red_ok hq f (r / q) a (by omega) hd.2
      refine ⟨k + 1, fun i hi => ?_, by rw [divs_front]; exact k2, ?_, fun i hi => ?_, ?_, by rw [divs_front]; exact k6⟩
      · cases i with
        | zero => exact hd
        | succ i => rw [divs_front]; exact k1 i (by omega)
      · rw [divs_front, ← k3]
        show (if r % q = 0 ∧ g (r / q) = true then _ else _) = _
        rw [if_pos hd]
      · cases i with
        | zero => exact ⟨h, Int.le_refl _⟩
        | succ i =>
          rw [divs_front]
          have := k4 i (by omega)
          omega
      · rw [divs_front]
        exact Int.dvd_trans k5 ⟨q, by rw [Int.mul_comm]; exact c⟩
    · refine ⟨0, fun i hi => by omega, hd, ?_, fun i hi => ?_, Int.dvd_refl _, hg⟩
      · show (if r % q = 0 ∧ g (r / q) = true then _ else _) = _
        rw [if_neg hd]
        rfl
      · have : i = 0 := by omega
        subst this
        exact ⟨h, Int.le_refl _⟩
abbrev redI (g : Int → Bool) (q r : Int) : Int := red g q r.toNat r
theorem redI_ok {g : Int → Bool} {q r : Int} (hq : 2 ≤ q) (hr : 1 ≤ r) (hg : g r = true) : ∃ k, (∀ i, i < k → divs r q i % q = 0 ∧ g (divs r q i / q) = true) ∧ ¬ (divs r q k % q = 0 ∧ g (divs r q k / q) = true) ∧ redI g q r = divs r q k ∧ (∀ i, i ≤ k → 1 ≤ divs r q i ∧ divs r q i ≤ r) ∧ divs r q k ∣ r ∧ g (divs r q k) = true := red_ok hq r.toNat r hr (Nat.le_refl _) hg
def redTo (g : Int → Bool) (r : Int) (qs : List Int) (i : Nat) : Int := (qs.take i).foldl (fun r q => redI g q r) r
theorem redTo_succ {g : Int → Bool} {r : Int} {qs : List Int} {i : Nat} (h : i < qs.length) : redTo g r qs (i + 1) = redI g qs[i] (redTo g r qs i) := by
  unfold redTo
  rw [List.take_succ_eq_append_getElem h, List.foldl_append]
  rfl
theorem redTo_ok {g : Int → Bool} (hm : ∀ a b : Int, 1 ≤ a → a ∣ b → g a = true → g b = true) {r : Int} (hr : 1 ≤ r) (hg : g r = true) {qs : List Int} (hq : ∀ q ∈ qs, 2 ≤ q) : ∀ i, i ≤ qs.length → 1 ≤ redTo g r qs i ∧ redTo g r qs i ≤ r ∧ redTo g r qs i ∣ r ∧ g (redTo g r qs i) = true ∧
    ∀ (j : Nat) (h : j < qs.length), j < i → ¬ (redTo g r qs i % qs[j] = 0 ∧ g (redTo g r qs i / qs[j]) = true)
  | 0, _ => ⟨hr, Int.le_refl _, Int.dvd_refl _, hg, fun j h hj => absurd hj (Nat.not_lt_zero _)⟩
  | i + 1, hi => by
    obtain ⟨a, b, c, d, e⟩ := redTo_ok hm hr hg hq i (by omega)
    rw [redTo_succ (by omega)]
    have q2 := hq qs[i] (List.getElem_mem _)
    obtain ⟨k, k1, k2, k3, k4, k5, k6⟩ := redI_ok q2 a d
    rw [k3]
    have l1 := k4 k (Nat.le_refl _)
    refine ⟨l1.1, Int.le_trans l1.2 b, Int.dvd_trans k5 c, k6, fun j hj hji => ?_⟩
    by_cases hji2 : j = i
    · subst hji2; exact k2
    · intro z
      refine e j hj (by omega) ?_
      have qj := hq qs[j] (List.getElem_mem _)
      obtain ⟨m, hm2⟩ := k5
      obtain ⟨w, hw⟩ := Int.dvd_of_emod_eq_zero z.1
      have e1 : redTo g r qs i = qs[j] * (w * m) := by rw [hm2, hw, Int.mul_assoc]
      have e2 : divs (redTo g r qs i) qs[i] k / qs[j] = w := by rw [hw]; exact Int.mul_ediv_cancel_left _ (by omega)
      have e3 : redTo g r qs i / qs[j] = w * m := by rw [e1]; exact Int.mul_ediv_cancel_left _ (by omega)
      have w1 : 1 ≤ w := by
        rcases Int.lt_or_le 0 w with y | y
        · omega
        · have := Int.mul_le_mul_of_nonneg_left y (show 0 ≤ qs[j] by omega)
          omega
      refine ⟨by rw [e1]; exact Int.mul_emod_right _ _, ?_⟩
      rw [e3]
      rw [e2] at z
      exact hm w (w * m) w1 ⟨m, rfl⟩ z.2
theorem perB_iff {m : Int} : perB P t s m = true ↔ Per P t s m.toNat := by
  unfold perB Per
  exact ⟨of_decide_eq_true, decide_eq_true⟩
theorem perB_mono (a b : Int) (h : 1 ≤ a) (hd : a ∣ b) (hg : perB P t s a = true) : perB P t s b = true := by
  rw [perB_iff] at hg ⊢
  rcases Int.lt_or_le 0 b with hb | hb
  · refine hg.dvd ?_
    have e1 : (a.toNat : Int) = a := Int.toNat_of_nonneg (by omega)
    have e2 : (b.toNat : Int) = b := Int.toNat_of_nonneg (by omega)
    rw [← e1, ← e2] at hd
    exact Int.natCast_dvd_natCast.mp hd
  · have : b.toNat = 0 := by omega
    rw [this]; exact per_zero
/-- the least rounds -/
theorem red_least {r0 : Int} {qs : List Int} (hr : 1 ≤ r0) (hg : perB P t s r0 = true) (hq : ∀ q ∈ qs, PrimeI q) (hall : ∀ q, PrimeI q → q ∣ r0 → q ∈ qs) (d : Nat) (d1 : 1 ≤ d) (dl : (d : Int) < redTo (perB P t s) r0 qs qs.length) : ¬ Per P t s d := fun hd => by
  obtain ⟨a, b, c, e, f⟩ := redTo_ok perB_mono hr hg (fun q h => (hq q h).1) qs.length (Nat.le_refl _)
  generalize redTo (perB P t s) r0 qs qs.length = r at *
  have er : (r.toNat : Int) = r := Int.toNat_of_nonneg (by omega)
  have g1 := Per.gcd (d + r.toNat) d r.toNat (Nat.le_refl _) hd (perB_iff.mp e)
  have g2 : Nat.gcd d r.toNat ∣ r.toNat := Nat.gcd_dvd_right _ _
  have g3 : Nat.gcd d r.toNat ≤ d := Nat.le_of_dvd d1 (Nat.gcd_dvd_left _ _)
  have g4 : 0 < Nat.gcd d r.toNat := Nat.gcd_pos_of_pos_left _ d1
  generalize Nat.gcd d r.toNat = g at *
  obtain ⟨h, hh⟩ := g2
  have h2 : 2 ≤ h := by
    rcases Nat.lt_or_ge h 2 with z | z
    · have : h = 0 ∨ h = 1 := by omega
      rcases this with rfl | rfl
      · omega
      · omega
    · exact z
  obtain ⟨q, q1, q2⟩ := prime_ex h (h : Int) (by omega) (by omega)
  have q2' := q1.1
  obtain ⟨k, hk⟩ := q2
  have k1 : 1 ≤ k := by
    rcases Int.lt_or_le 0 k with y | y
    · omega
    · have := Int.mul_le_mul_of_nonneg_left y (show 0 ≤ q by omega)
      omega
  have e1 : r = q * ((g : Int) * k) := by
    rw [← er, hh, Int.natCast_mul, hk]
    rw [← Int.mul_assoc, Int.mul_comm (g : Int) q, Int.mul_assoc]
  have qr : q ∣ r := ⟨_, e1⟩
  obtain ⟨j, hj, ej⟩ := List.getElem_of_mem (hall q q1 (Int.dvd_trans qr c))
  refine f j hj hj ?_
  rw [ej]
  refine ⟨Int.emod_eq_zero_of_dvd qr, ?_⟩
  have e2 : r / q = (g : Int) * k := by rw [e1]; exact Int.mul_ediv_cancel_left _ (by omega)
  rw [e2]
  refine perB_mono (g : Int) _ (by omega) ⟨k, rfl⟩ ?_
  rw [perB_iff]
  exact g1
/-! the tail -/
def tailGo (P : Int) (t : List (List Int)) (s : List Int) (span : Nat) (i : Nat) : Bool := !decide (orbV P t (orbV P t s i) span = orbV P t s i)
noncomputable def tailN (P : Int) (t : List (List Int)) (s : List Int) (span : Nat) : Nat := Classical.epsilon fun k => (∀ i, i < k → tailGo P t s span i = true) ∧ tailGo P t s span k = false
end
section
variable {P : Int} {n : Nat} {t : List (List Int)} {s : List Int} (hp : Prm P) (h : Tbl P n t) (hs : RowOn P n s) (n1 : 1 ≤ n) (n3 : n ≤ 3)
def spanI (P : Int) (n : Nat) : Int := prodUpTo (spanParts P n) (spanParts P n).length
include hp
theorem parts_ok (n3 : n ≤ 3) : ∀ x ∈ spanParts P n, 1 ≤ x ∧ x ≤ 1000000000 := by
  have p3 := hp.lo
  have p9 := hp.hi
  have pp : P * P ≤ 9999 * 9999 := Int.mul_le_mul p9 p9 (by omega) (by omega)
  have pq : 0 ≤ P * P := Int.mul_nonneg (by omega) (by omega)
  intro x hx
  unfold spanParts at hx
  simp only [List.mem_append, List.mem_cons, List.not_mem_nil, or_false] at hx
  rcases hx with ((hx | hx) | hx) | hx
  · omega
  · split at hx <;> simp at hx; omega
  · split at hx <;> simp at hx; omega
  · split at hx <;> simp at hx; omega
include n1 n3
theorem span_eq : spanI P n = ((ringL P.toNat n * P.toNat ^ (if P ≤ n then 2 else 1) : Nat) : Int) := by
  have p3 := hp.lo
  obtain ⟨p, rfl⟩ : ∃ p : Nat, P = p := ⟨P.toNat, by omega⟩
  obtain ⟨q, rfl⟩ : ∃ q, p = q + 1 := ⟨p - 1, by omega⟩
  rw [Int.toNat_natCast]
  have e1 : ((q + 1 : Nat) : Int) - 1 = q := by omega
  unfold spanI prodUpTo spanParts ringL
  rw [List.take_length]
  have hn : n = 1 ∨ n = 2 ∨ n = 3 := by omega
  by_cases hP : ((q + 1 : Nat) : Int) ≤ n
  · rw [if_pos hP, if_pos hP]
    rcases hn with rfl | rfl | rfl
    · omega
    · omega
    · rw [if_pos (by decide), if_pos (by decide), if_pos (by decide), if_pos (by decide)]
      simp only [List.cons_append, List.nil_append, List.foldl_cons, List.foldl_nil]
      rw [e1, Nat.add_sub_cancel]
      simp only [Int.natCast_add, Int.natCast_mul, Int.natCast_pow, Int.natCast_one]
      grind
  · rw [if_neg hP, if_neg hP]
    rcases hn with rfl | rfl | rfl
    · rw [if_neg (by decide), if_neg (by decide), if_neg (by decide), if_neg (by decide)]
      simp only [List.cons_append, List.nil_append, List.append_nil, List.foldl_cons, List.foldl_nil]
      rw [e1, Nat.add_sub_cancel]
      simp only [Int.natCast_add, Int.natCast_mul, Int.natCast_pow, Int.natCast_one]
      grind
    · rw [if_pos (by decide), if_neg (by decide), if_pos (by decide), if_neg (by decide)]
      simp only [List.cons_append, List.nil_append, List.append_nil, List.foldl_cons, List.foldl_nil]
      rw [e1, Nat.add_sub_cancel]
      simp only [Int.natCast_add, Int.natCast_mul, Int.natCast_pow, Int.natCast_one]
      grind
    · rw [if_pos (by decide), if_pos (by decide), if_pos (by decide), if_pos (by decide)]
      simp only [List.cons_append, List.nil_append, List.append_nil, List.foldl_cons, List.foldl_nil]
      rw [e1, Nat.add_sub_cancel]
      simp only [Int.natCast_add, Int.natCast_mul, Int.natCast_pow, Int.natCast_one]
      grind
theorem span_lo : 1 ≤ spanI P n := by
  have p3 := hp.lo
  rw [span_eq hp n1 n3]
  have a : 0 < ringL P.toNat n := by
    unfold ringL
    refine Nat.mul_pos (Nat.mul_pos (by omega) ?_) ?_
    · split <;> omega
    · split <;> omega
  have b : 0 < P.toNat ^ (if P ≤ n then 2 else 1) := Nat.pow_pos (by omega)
  have := Nat.mul_pos a b
  omega
include h hs
theorem orb_per : orbV P t s (n + (spanI P n).toNat) = orbV P t s n := by
  have p3 := hp.lo
  rw [span_eq hp n1 n3, Int.toNat_natCast]
  refine orb_per0 hp h hs n1 n3 ?_
  split
  · next hP =>
    have : P.toNat = 3 := by omega
    rw [this]
    show n + 1 ≤ 9
    omega
  · next hP =>
    rw [Nat.pow_one]; omega
theorem tail_ok : tailN P t s (spanI P n).toNat ≤ n ∧ (∀ i, i < tailN P t s (spanI P n).toNat → tailGo P t s (spanI P n).toNat i = true) ∧ tailGo P t s (spanI P n).toNat (tailN P t s (spanI P n).toNat) = false := by
  have e := orb_per hp h hs n1 n3
  rw [orb_add] at e
  have hn : tailGo P t s (spanI P n).toNat n = false := by unfold tailGo; rw [decide_eq_true e]; rfl
  obtain ⟨k, a, b, c⟩ := first_not (tailGo P t s (spanI P n).toNat) n hn
  have z := Classical.epsilon_spec (p := fun k => (∀ i, i < k → tailGo P t s (spanI P n).toNat i = true) ∧ tailGo P t s (spanI P n).toNat k = false) ⟨k, b, c⟩
  refine ⟨?_, z.1, z.2⟩
  refine Classical.byContradiction fun hn2 => ?_
  have := z.1 n (by show n < tailN P t s (spanI P n).toNat; omega)
  rw [hn] at this
  cases this
end
/-- the tail, the stand behind it, the length, the primes -/
noncomputable def rTail (P : Int) (n : Nat) (t : List (List Int)) (s : List Int) : Nat := tailN P t s (spanI P n).toNat
noncomputable def rBase (P : Int) (n : Nat) (t : List (List Int)) (s : List Int) : List Int := orbV P t s (rTail P n t s)
noncomputable def keysAll (P : Int) (n : Nat) : List Int := keysUpTo (spanParts P n) (spanParts P n).length
noncomputable def keysS (P : Int) (n : Nat) : List Int := (keysAll P n).mergeSort fun a b => decide (a ≤ b)
noncomputable def rLen (P : Int) (n : Nat) (t : List (List Int)) (s : List Int) : Int := redTo (perB P t (rBase P n t s)) (spanI P n) (keysS P n) (keysS P n).length
noncomputable def rPrimes (P : Int) (n : Nat) (t : List (List Int)) (s : List Int) : List Int := (keysS P n).filter fun q => decide (rLen P n t s % q = 0)
section
variable {P : Int} {n : Nat} {t : List (List Int)} {s : List Int} (hp : Prm P) (n1 : 1 ≤ n) (n3 : n ≤ 3)
include hp n3
theorem keys_ok : (keysS P n).Pairwise (· < ·) ∧ (∀ q ∈ keysS P n, PrimeI q) ∧ (∀ q, PrimeI q → q ∣ spanI P n → q ∈ keysS P n) := by
  have pk := parts_ok hp n3
  refine ⟨?_, fun q hq => ?_, fun q hq hd => ?_⟩
  · have so := List.pairwise_mergeSort (le := fun a b : Int => decide (a ≤ b)) (fun a b c h1 h2 => decide_eq_true (Int.le_trans (of_decide_eq_true h1) (of_decide_eq_true h2))) (fun a b => by
      simp only [Bool.or_eq_true, decide_eq_true_eq]; omega) (keysAll P n)
    have nd : (keysS P n).Nodup := (List.mergeSort_perm (keysAll P n) _).nodup_iff.mpr (keys_nd _ (Nat.le_refl _))
    exact (List.pairwise_and_iff.mpr ⟨so, nd⟩).imp fun ⟨a, b⟩ => by have := of_decide_eq_true a; omega
  · have := (List.mergeSort_perm (keysAll P n) _).mem_iff.mp hq
    obtain ⟨j, h1, h2, h3⟩ := (keys_mem _ (Nat.le_refl _)).mp this
    obtain ⟨a, b⟩ := pk _ (List.getElem_mem h1)
    exact (chain_mem (primesOf_chain a b) a h3).1
  · exact (List.mergeSort_perm (keysAll P n) _).mem_iff.mpr (keys_prod pk hq _ (Nat.le_refl _) hd)
include n1
variable (h : Tbl P n t) (hs : RowOn P n s)
include h hs
/-- what is told of the ring -/
theorem ring_facts : rTail P n t s ≤ n ∧ 1 ≤ rLen P n t s ∧ rLen P n t s ≤ spanI P n ∧ rLen P n t s ∣ spanI P n ∧ Per P t (rBase P n t s) (rLen P n t s).toNat ∧ (∀ d : Nat, 1 ≤ d → (d : Int) < rLen P n t s → ¬ Per P t (rBase P n t s) d) ∧
    PChain (rLen P n t s) (rPrimes P n t s) 2 := by
  obtain ⟨t1, t2, t3⟩ := tail_ok hp h hs n1 n3
  have sl := span_lo hp n1 n3
  obtain ⟨k1, k2, k3⟩ := keys_ok hp n3
  have pb : perB P t (rBase P n t s) (spanI P n) = true := by
    rw [perB_iff]
    unfold tailGo at t3
    have := of_decide_eq_true (Bool.not_eq_false' .. ▸ t3 : decide _ = true)
    exact this
  obtain ⟨a, b, c, d, e⟩ := redTo_ok perB_mono sl pb (fun q hq => (k2 q hq).1) (keysS P n).length (Nat.le_refl _)
  refine ⟨t1, a, b, c, perB_iff.mp d, fun d d1 dl => red_least sl pb k2 k3 d d1 dl, ?_⟩
  refine chain_of a (k1.sublist List.filter_sublist) (fun q hq => ?_) fun q hq hd => ?_
  · obtain ⟨m1, m2⟩ := List.mem_filter.mp hq
    exact ⟨(k2 q m1).1, k2 q m1, Int.dvd_of_emod_eq_zero (of_decide_eq_true m2)⟩
  · exact List.mem_filter.mpr ⟨k3 q hq (Int.dvd_trans hd c), decide_eq_true (Int.emod_eq_zero_of_dvd hd)⟩
/-- ahead of the tail's end no stand comes again -/
theorem tail_least (i : Nat) (hi : i < rTail P n t s) (m : Nat) (m1 : 1 ≤ m) : orbV P t s (i + m) ≠ orbV P t s i := fun e => by
  obtain ⟨t1, t2, t3⟩ := tail_ok hp h hs n1 n3
  have z := t2 i hi
  unfold tailGo at z
  have ne : orbV P t (orbV P t s i) (spanI P n).toNat ≠ orbV P t s i := fun y => by rw [decide_eq_true y] at z; cases z
  -- the stand comes again after m rounds, so after m times span, and the span alone leads on from the ring
  have pm : Per P t (orbV P t s i) m := by unfold Per; rw [← orb_add]; exact e
  have big := pm.mul (n + 1)
  have l : n ≤ m * (n + 1) := by
    have := Nat.le_mul_of_pos_left (n + 1) m1
    omega
  have hp2 := orb_per hp h hs n1 n3
  -- behind n rounds the span leads back
  have far : ∀ a, n ≤ a → orbV P t s (a + (spanI P n).toNat) = orbV P t s a := fun a ha => by
    obtain ⟨b, rfl⟩ := Nat.exists_eq_add_of_le ha
    rw [show n + b + (spanI P n).toNat = n + (spanI P n).toNat + b by omega, orb_add, hp2, ← orb_add]
  refine ne ?_
  have e1 : orbV P t s (i + m * (n + 1)) = orbV P t s i := by rw [orb_add]; exact big
  rw [← orb_add, ← e1]
  conv => lhs; rw [orb_add, ← e1, ← orb_add]
  rw [far _ (by omega), e1]
end
end W

namespace W
open LR L2
/-! the dict of primes -/
def ent (q : Int) : L2.Key × PySem.PyData := (Sum.inl q, .bool true)
theorem ent_any (ks : List Int) (q : Int) : ((ks.map ent).any fun e => decide (e.1 = Sum.inl q)) = decide (q ∈ ks) := by
  rw [List.any_map]
  induction ks with
  | nil => rfl
  | cons k ks ih =>
    rw [List.any_cons, ih]
    show (decide ((Sum.inl k : L2.Key) = Sum.inl q) || _) = _
    by_cases e : k = q
    · subst e; simp
    · have : ¬ (Sum.inl k : L2.Key) = Sum.inl q := fun z => e (Sum.inl.inj z)
      have e2 : ¬ q = k := fun z => e z.symm
      simp [this, e2]
theorem put_ent (ks : List Int) (q : Int) : putE (ks.map ent) (Sum.inl q) (.bool true) = (pk ks q).map ent := by
  unfold putE pk
  rw [ent_any]
  by_cases h : q ∈ ks
  · rw [if_pos (decide_eq_true h), if_pos h, List.map_map]
    refine List.map_congr_left fun k _ => ?_
    show (if (Sum.inl k : L2.Key) = Sum.inl q then _ else _) = _
    split <;> rfl
  · rw [if_neg (by rw [decide_eq_false h]; decide), if_neg h, List.map_append]
    rfl
theorem keys_len {ps : List Int} (h1 : ∀ x ∈ ps, 1 ≤ x ∧ x ≤ 1000000000) : ∀ i, i ≤ ps.length → (keysUpTo ps i).length ≤ 40001 * i
  | 0, _ => Nat.le_refl _
  | i + 1, h => by
    rw [keys_succ (by omega)]
    have a := add_len (primesOf ps[i]) (keysUpTo ps i)
    have b := keys_len h1 i (by omega)
    obtain ⟨c, d⟩ := h1 ps[i] (List.getElem_mem _)
    have e := primesOf_len c d
    omega
theorem few_len {m : Int} {k : Nat} (h1 : 1 ≤ m) (h9 : m ≤ 1000000000) (h : m < (2 : Int) ^ (k + 1)) : (primesOf m).length ≤ k := by
  have c := chain_few (primesOf_chain h1 h9) h1
  refine Classical.byContradiction fun hn => ?_
  have : (2 : Int) ^ (k + 1) ≤ 2 ^ (primesOf m).length := by
    have := Nat.pow_le_pow_right (show 0 < 2 by decide) (show k + 1 ≤ (primesOf m).length by omega)
    have := Int.ofNat_le.mpr this
    simpa using this
  omega
theorem one_len {P : Int} (hp : Prm P) : (primesOf P).length ≤ 1 := by
  have p3 := hp.lo
  have p9 := hp.hi
  have c := primesOf_chain (n := P) (by omega) (by omega)
  cases hl : primesOf P with
  | nil => simp
  | cons q l =>
    rw [hl, PChain] at c
    have q2 := c.2.2.1.1
    have ql := Int.le_of_dvd (by omega) (Int.dvd_of_emod_eq_zero c.2.1)
    have e : q = P := by
      refine Classical.byContradiction fun hne => ?_
      exact hp.no q q2 (by omega) c.2.1
    have c2 := c.2.2.2
    rw [e, stripI_self (by omega)] at c2
    cases l with
    | nil => simp
    | cons r l =>
      rw [PChain] at c2
      have := Int.le_of_dvd (by decide) (Int.dvd_of_emod_eq_zero c2.2.1)
      have := c2.2.2.1.1
      omega
theorem keys_few {P : Int} {n : Nat} (hp : Prm P) (n3 : n ≤ 3) : (keysAll P n).length < 64 := by
  have p3 := hp.lo
  have p9 := hp.hi
  have pp : P * P ≤ 9999 * 9999 := Int.mul_le_mul p9 p9 (by omega) (by omega)
  have pq : 0 ≤ P * P := Int.mul_nonneg (by omega) (by omega)
  have l0 := one_len hp
  have l1 := few_len (m := P - 1) (k := 13) (by omega) (by omega) (by show P - 1 < 16384; omega)
  have l2 := few_len (m := P + 1) (k := 13) (by omega) (by omega) (by show P + 1 < 16384; omega)
  have l3 := few_len (m := P * P + P + 1) (k := 26) (by omega) (by omega) (by show P * P + P + 1 < 134217728; omega)
  have key : ∀ (ps : List Int) (ks : List Int), (ps.foldl (fun ks part => addPs ks (primesOf part)) ks).length ≤ ks.length + (ps.map fun p => (primesOf p).length).sum := fun ps => by
    induction ps with
    | nil => intro ks; simp
    | cons p ps ih =>
      intro ks
      rw [List.foldl_cons, List.map_cons, List.sum_cons]
      have := ih (addPs ks (primesOf p))
      have := add_len (primesOf p) ks
      omega
  have k := key (spanParts P n) []
  unfold keysAll keysUpTo
  rw [List.take_length]
  refine Nat.lt_of_le_of_lt k ?_
  unfold spanParts
  simp only [List.map_append, List.sum_append, List.map_cons, List.map_nil, List.sum_cons, List.sum_nil, List.length_nil]
  have a : ((if 1 < n then [P + 1] else []).map fun p => (primesOf p).length).sum ≤ 13 := by
    split
    · simpa using l2
    · simp
  have b : ((if 2 < n then [P * P + P + 1] else []).map fun p => (primesOf p).length).sum ≤ 26 := by
    split
    · simpa using l3
    · simp
  have c : ((if P ≤ n then [P] else []).map fun p => (primesOf p).length).sum ≤ 1 := by
    split
    · simpa using l0
    · simp
  omega
/-- .. by the ladder -/
def jmp (P : Int) (t : List (List Int)) (m : Nat) (s : List Int) : Nat → List Int
  | 0 => s
  | i + 1 => if m / 2 ^ i % 2 = 1 then turned P (dbl P t i) (jmp P t m s i) else jmp P t m s i
theorem jmp_orb {P : Int} {n : Nat} {t : List (List Int)} {s : List Int} (hp : Prm P) (h : Tbl P n t) (hs : RowOn P n s) (hn : 1 ≤ n) (m : Nat) : ∀ i, jmp P t m s i = orbV P t s (m % 2 ^ i)
  | 0 => by rw [Nat.pow_zero, Nat.mod_one]; rfl
  | k + 1 => by
    have p1 := hp.one
    show (if _ then _ else _) = _
    rw [jmp_orb hp h hs hn m k, dbl_pw p1 hn h k]
    have e : m % 2 ^ (k + 1) = m % 2 ^ k + 2 ^ k * (m / 2 ^ k % 2) := by rw [Nat.pow_succ, Nat.mod_mul]
    have on := orb_on hp h hs (m % 2 ^ k)
    rcases Nat.mod_two_eq_zero_or_one (m / 2 ^ k) with z | z
    · rw [if_neg (by omega), e, z, Nat.mul_zero, Nat.add_zero]
    · rw [if_pos z, e, z, Nat.mul_one, orb_add, orb_pw hp h on hn]
theorem span_hi {P : Int} {n : Nat} (hp : Prm P) (n1 : 1 ≤ n) (n3 : n ≤ 3) : (spanI P n).toNat < 2 ^ 1000 := by
  have p3 := hp.lo
  have p9 := hp.hi
  rw [span_eq hp n1 n3, Int.toNat_natCast]
  have a : ringL P.toNat n ≤ 9999 * 10001 * (9999 * 9999 + 9999 + 1) := by
    unfold ringL
    refine Nat.mul_le_mul (Nat.mul_le_mul (by omega) ?_) ?_
    · split <;> omega
    · have := Nat.mul_le_mul (show P.toNat ≤ 9999 by omega) (show P.toNat ≤ 9999 by omega)
      split <;> omega
  have b : P.toNat ^ (if P ≤ n then 2 else 1) ≤ 9999 ^ 2 := by
    have q : P.toNat ≤ 9999 := by omega
    split
    · exact Nat.pow_le_pow_left q 2
    · rw [Nat.pow_one]; exact Nat.le_trans q (by decide)
  have c := Nat.mul_le_mul a b
  have d : 9999 * 10001 * (9999 * 9999 + 9999 + 1) * 9999 ^ 2 < 2 ^ 1000 := by decide +kernel
  omega
theorem span_30 {P : Int} {n : Nat} (hp : Prm P) (n1 : 1 ≤ n) (n3 : n ≤ 3) : spanI P n ≤ 1000000000000000000000000000000 := by
  have p3 := hp.lo
  have p9 := hp.hi
  rw [span_eq hp n1 n3]
  have a : ringL P.toNat n ≤ 9999 * 10001 * (9999 * 9999 + 9999 + 1) := by
    unfold ringL
    refine Nat.mul_le_mul (Nat.mul_le_mul (by omega) ?_) ?_
    · split <;> omega
    · have := Nat.mul_le_mul (show P.toNat ≤ 9999 by omega) (show P.toNat ≤ 9999 by omega)
      split <;> omega
  have b : P.toNat ^ (if P ≤ n then 2 else 1) ≤ 9999 ^ 2 := by
    have q : P.toNat ≤ 9999 := by omega
    split
    · exact Nat.pow_le_pow_left q 2
    · rw [Nat.pow_one]; exact Nat.le_trans q (by decide)
  have c := Nat.mul_le_mul a b
  have d : 9999 * 10001 * (9999 * 9999 + 9999 + 1) * 9999 ^ 2 ≤ 1000000000000000000000000000000 := by decide +kernel
  omega
/-- rounds behind the tail may be told by their rest -/
theorem per_mod {P : Int} {t : List (List Int)} {s : List Int} {r : Nat} (h : Per P t s r) (m : Nat) : orbV P t s m = orbV P t s (m % r) := by
  have e : m = r * (m / r) + m % r := (Nat.div_add_mod m r).symm
  conv => lhs; rw [e, orb_add, h.mul (m / r)]
end W

namespace W
open PySem PySem.Spec PyProof.Rows L2 LR
section
variable {P : Program} {w : World} {K : PySem.W.Frag} {mg : Str → Option Value} {base : Heap}
inductive rPrimesOf : List PyData → Res → Prop
  | mk {n : Int} (h : 1 ≤ n) (h9 : n ≤ 1000000000) : rPrimesOf [.int n] (.ok (.own (.lst ((primesOf n).map .int))))
local macro_rules | `(tactic| wtm_at "nm") => `(tactic| first
  | ((with_reducible show Ev _ _ (.Name "n" _) _); exact nmF (by assumption) 0 (by rfl) rfl (by decide +kernel) (by decide +kernel) (by decide +kernel))
  | ((with_reducible show Ev _ _ (.Name "found" _) _); exact nmF (by assumption) 1 (by rfl) rfl (by decide +kernel) (by decide +kernel) (by decide +kernel))
  | ((with_reducible show Ev _ _ (.Name "by" _) _); exact nmF (by assumption) 2 (by rfl) rfl (by decide +kernel) (by decide +kernel) (by decide +kernel)))
local macro_rules | `(tactic| wtm_at "own") => `(tactic| first
  | ((with_reducible show EvS _ _ (.Name "n" _) _ _); exact ownF (by assumption) 0 (by rfl) rfl (by decide +kernel) (by decide +kernel) (by decide +kernel))
  | ((with_reducible show EvS _ _ (.Name "found" _) _ _); exact ownF (by assumption) 1 (by rfl) rfl (by decide +kernel) (by decide +kernel) (by decide +kernel))
  | ((with_reducible show EvS _ _ (.Name "by" _) _ _); exact ownF (by assumption) 2 (by rfl) rfl (by decide +kernel) (by decide +kernel) (by decide +kernel)))
local macro_rules | `(tactic| wtm_at "ownl") => `(tactic| first
  | ((with_reducible show EvL _ _ (.Name "n" _) _); exact ownlF (by assumption) 0 (by rfl) rfl (by decide +kernel) (by decide +kernel) (by decide +kernel))
  | ((with_reducible show EvL _ _ (.Name "found" _) _); exact ownlF (by assumption) 1 (by rfl) rfl (by decide +kernel) (by decide +kernel) (by decide +kernel))
  | ((with_reducible show EvL _ _ (.Name "by" _) _); exact ownlF (by assumption) 2 (by rfl) rfl (by decide +kernel) (by decide +kernel) (by decide +kernel)))
local macro_rules | `(tactic| wtm_at "set") => `(tactic| first
  | ((with_reducible show S1 _ _ (.Assign [.Name "n" _] _ _) _); refine' setF ?st1 ?st2 0 ?st3 ?st4 ?ste ?st5; (case' st1 => assumption); (case' st2 => assumption); (case' st3 => rfl); (case' st4 => decide +kernel); (case' ste => wtm_at "ev"); (case' st5 => rfl))
  | ((with_reducible show S1 _ _ (.Assign [.Name "found" _] _ _) _); refine' setF ?st1 ?st2 1 ?st3 ?st4 ?ste ?st5; (case' st1 => assumption); (case' st2 => assumption); (case' st3 => rfl); (case' st4 => decide +kernel); (case' ste => wtm_at "ev"); (case' st5 => rfl))
  | ((with_reducible show S1 _ _ (.Assign [.Name "by" _] _ _) _); refine' setF ?st1 ?st2 2 ?st3 ?st4 ?ste ?st5; (case' st1 => assumption); (case' st2 => assumption); (case' st3 => rfl); (case' st4 => decide +kernel); (case' ste => wtm_at "ev"); (case' st5 => rfl)))
local macro_rules | `(tactic| wtm_at "app") => `(tactic| first
  | ((with_reducible show S1 _ _ (.Expr (.Call (.Attribute (.Name "n" _) _ _) _ _ _) _) _); refine' appF ?ap1 0 ?ap2 ?ap3 ?ap4 ?ape ?aps ?ap5 ?ap6; (case' ap1 => assumption); (case' ap2 => rfl); (case' ap3 => rfl); (case' ap4 => decide +kernel); (case' ape => wtm_at "ev"); (case' aps => try (wtm_at "sz")); (case' ap5 => decide +kernel); (case' ap6 => decide +kernel))
  | ((with_reducible show S1 _ _ (.Expr (.Call (.Attribute (.Name "found" _) _ _) _ _ _) _) _); refine' appF ?ap1 1 ?ap2 ?ap3 ?ap4 ?ape ?aps ?ap5 ?ap6; (case' ap1 => assumption); (case' ap2 => rfl); (case' ap3 => rfl); (case' ap4 => decide +kernel); (case' ape => wtm_at "ev"); (case' aps => try (wtm_at "sz")); (case' ap5 => decide +kernel); (case' ap6 => decide +kernel))
  | ((with_reducible show S1 _ _ (.Expr (.Call (.Attribute (.Name "by" _) _ _) _ _ _) _) _); refine' appF ?ap1 2 ?ap2 ?ap3 ?ap4 ?ape ?aps ?ap5 ?ap6; (case' ap1 => assumption); (case' ap2 => rfl); (case' ap3 => rfl); (case' ap4 => decide +kernel); (case' ape => wtm_at "ev"); (case' aps => try (wtm_at "sz")); (case' ap5 => decide +kernel); (case' ap6 => decide +kernel)))
local macro_rules | `(tactic| wtm_at "put") => `(tactic| first
  | ((with_reducible show S1 _ _ (.Assign [.Subscript (.Name "n" _) _ _] _ _) _); refine' putF ?pu1 0 ?pu2 ?pu3 ?pu4 ?pue ?pui ?pu5 ?pu6 ?pu7 ?pu8; (case' pu1 => assumption); (case' pu2 => rfl); (case' pu3 => rfl); (case' pu4 => decide +kernel); (case' pue => wtm_at "ev"); (case' pui => wtm_at "ev"); (case' pu5 => try (wtm_at "sd")); (case' pu6 => try (wtm_at "sd")); (case' pu7 => decide +kernel); (case' pu8 => decide +kernel))
  | ((with_reducible show S1 _ _ (.Assign [.Subscript (.Name "found" _) _ _] _ _) _); refine' putF ?pu1 1 ?pu2 ?pu3 ?pu4 ?pue ?pui ?pu5 ?pu6 ?pu7 ?pu8; (case' pu1 => assumption); (case' pu2 => rfl); (case' pu3 => rfl); (case' pu4 => decide +kernel); (case' pue => wtm_at "ev"); (case' pui => wtm_at "ev"); (case' pu5 => try (wtm_at "sd")); (case' pu6 => try (wtm_at "sd")); (case' pu7 => decide +kernel); (case' pu8 => decide +kernel))
  | ((with_reducible show S1 _ _ (.Assign [.Subscript (.Name "by" _) _ _] _ _) _); refine' putF ?pu1 2 ?pu2 ?pu3 ?pu4 ?pue ?pui ?pu5 ?pu6 ?pu7 ?pu8; (case' pu1 => assumption); (case' pu2 => rfl); (case' pu3 => rfl); (case' pu4 => decide +kernel); (case' pue => wtm_at "ev"); (case' pui => wtm_at "ev"); (case' pu5 => try (wtm_at "sd")); (case' pu6 => try (wtm_at "sd")); (case' pu7 => decide +kernel); (case' pu8 => decide +kernel)))
local macro_rules | `(tactic| wtm_at "reto") => `(tactic| first
  | ((with_reducible show S1 _ _ (.Return (some (.Name "n" _)) _) _); exact retOF (by assumption) 0 (by rfl) rfl (by decide +kernel) (by decide +kernel) (by decide +kernel))
  | ((with_reducible show S1 _ _ (.Return (some (.Name "found" _)) _) _); exact retOF (by assumption) 1 (by rfl) rfl (by decide +kernel) (by decide +kernel) (by decide +kernel))
  | ((with_reducible show S1 _ _ (.Return (some (.Name "by" _)) _) _); exact retOF (by assumption) 2 (by rfl) rfl (by decide +kernel) (by decide +kernel) (by decide +kernel)))
local macro_rules | `(tactic| wtm_at "tgt") => `(tactic| first
  | ((with_reducible show PG _ (.Name "n" _) _); exact tgF (by assumption) (by assumption) 0 (by rfl) (by decide +kernel))
  | ((with_reducible show PG _ (.Name "found" _) _); exact tgF (by assumption) (by assumption) 1 (by rfl) (by decide +kernel))
  | ((with_reducible show PG _ (.Name "by" _) _); exact tgF (by assumption) (by assumption) 2 (by rfl) (by decide +kernel)))
theorem ok_primes {f : Addr} {fd : FuncData} (F : Fun K "primes_of" "primes_of" s_primes_of f fd) (hm : mg "primes_of" = some (.ref f)) (b : Binds K fd ["n"] []) (mi : mg "int" = none) : Fn P w K mg base 1 "primes_of" ["n"] rPrimesOf := by
  refine fnF F hm b sc_primes_of (fun ds r h => by cases h; rfl) fun X hX hT ds r h => ?_
  cases h with
  | @mk n h h9 =>
    obtain ⟨k9, hgo, hst⟩ := stopAt_ok h h9
    refine' sm_cons ?s1 ?_
    case' s1 => wtm_at "st"
    refine' sm_cons ?s2 ?_
    case' s2 => wtm_at "st"
    refine' sm_cons ?s3 ?_
    case' s3 =>
      refine' whileV hX (fun i => [.dat (.int (pst n i).1), .own (.lst ((pst n i).2.2.map .int)), .dat (.int (pst n i).2.1)]) (stopAt n) (fun i => pgo (pst n i)) ?l (fun i hi => ?t) hgo hst fun i hi => ?b3
      case' l => wtm_at "le"
      case' t =>
        have I := pst_inv h i fun j hj => hgo j (by omega)
        have i9 := I.by9
        have i2 := I.by2
        have hc : CMul (pst n i).2.1 (pst n i).2.1 := .inl (by omega)
        refine' et_eq ?t1 ?t2
        case' t1 => wtm_at "test"
        case t2 => rfl
      have I := pst_inv h i fun j hj => hgo j (by omega)
      have i9 := I.by9
      have i2 := I.by2
      have ilo := I.lo
      have ile := I.len
      have b0 : 0 < (pst n i).2.1 := by omega
      have b9 : (pst n i).2.1 < 1073741824 := by omega
      have zl : ((pst n i).2.2.map PyData.int).length < sizeLine := by rw [List.length_map, sizeLine_eq]; omega
      refine' sm_cons (A1 := [.dat (.int (pst n (i + 1)).1), .own (.lst ((pst n (i + 1)).2.2.map .int)), .dat (.int (pst n i).2.1)]) ?s4 ?_
      case' s4 =>
        refine' s1_if ?c4 (fun h4 => ?t4) fun h4 => ?f4
        case' c4 => wtm_at "test"
        case' t4 =>
          have h0 : (pst n i).1 % (pst n i).2.1 = 0 := of_decide_eq_true h4
          have e1 : (pst n (i + 1)).1 = stripI (pst n i).2.1 (pst n i).1 := by show (if _ then _ else _) = _; rw [if_pos h0]
          have e2 : (pst n (i + 1)).2.2 = (pst n i).2.2 ++ [(pst n i).2.1] := by show (if _ then _ else _) = _; rw [if_pos h0]
          obtain ⟨k, k1, k2, k3, k4, k5⟩ := stripI_ok (show 2 ≤ (pst n i).2.1 by omega) ilo
          refine' sm_cons ?s5 ?_
          case' s5 => wtm_at "st"
          refine' sm_le (sm_one ?s6) ?l6
          case' s6 =>
            refine' whileV hX (fun j => [.dat (.int (divs (pst n i).1 (pst n i).2.1 j)), .own (.lst ((pst n i).2.2.map .int ++ [.int (pst n i).2.1])), .dat (.int (pst n i).2.1)]) k (fun j => decide (divs (pst n i).1 (pst n i).2.1 j % (pst n i).2.1 = 0)) ?l7 (fun j _ => ?t7) (fun j hj => ?v7) ?w7 fun j hj => ?b7
            case' l7 => wtm_at "le"
            case' t7 => wtm_at "test"
            case v7 => exact decide_eq_true (k1 j hj)
            case w7 => exact decide_eq_false k2
            case' b7 =>
              refine' sm_le (sm_one ?s8) ?l8
              case' s8 => wtm_at "st"
              case' l8 => wtm_at "le"
          case' l6 =>
            rw [e1, e2, List.map_append, k3]
            wtm_at "le"
        case' f4 =>
          have h0 : ¬ (pst n i).1 % (pst n i).2.1 = 0 := of_decide_eq_false h4
          have e1 : (pst n (i + 1)).1 = (pst n i).1 := by show (if _ then _ else _) = _; rw [if_neg h0]
          have e2 : (pst n (i + 1)).2.2 = (pst n i).2.2 := by show (if _ then _ else _) = _; rw [if_neg h0]
          refine' sm_le sm_nil ?l9
          case' l9 =>
            rw [e1, e2]
            wtm_at "le"
      refine' sm_le (sm_one ?s10) ?l10
      case' s10 => wtm_at "st"
      case' l10 =>
        refine' LeA.cons LeC.refl (LeA.cons LeC.refl (LeA.cons (LeC.int ?e10) LeA.nil))
        case e10 =>
          show _ = nextBy (pst n i).2.1
          unfold nextBy
          simp only [decide_eq_true_eq]
    have I := pst_inv h (stopAt n) hgo
    have ile := I.len
    have zl : ((pst n (stopAt n)).2.2.map PyData.int).length < sizeLine := by rw [List.length_map, sizeLine_eq]; omega
    refine' sm_cons (A1 := [.un, .own (.lst ((primesOf n).map .int)), .un]) ?s11 ?_
    case' s11 =>
      refine' s1_if ?c11 (fun h11 => ?t11) fun h11 => ?f11
      case' c11 => wtm_at "test"
      case' t11 =>
        have e : primesOf n = (pst n (stopAt n)).2.2 ++ [(pst n (stopAt n)).1] := by
          unfold primesOf pfin
          rw [if_pos (of_decide_eq_true h11)]
        refine' sm_le (sm_one ?s12) ?l12
        case' s12 => wtm_at "st"
        case' l12 =>
          rw [e, List.map_append]
          wtm_at "le"
      case' f11 =>
        have e : primesOf n = (pst n (stopAt n)).2.2 := by
          unfold primesOf pfin
          rw [if_neg (of_decide_eq_false h11)]
        refine' sm_le sm_nil ?l13
        case' l13 =>
          rw [e]
          wtm_at "le"
    refine' sm_end ?s14
    case' s14 => wtm_at "st"
end
end W

namespace W
open PySem PySem.Spec PyProof.Rows L2 LR
section
variable {P : Program} {w : World} {K : PySem.W.Frag} {mg : Str → Option Value} {base : Heap}
theorem sq_stop {q : Int} (h2 : 2 ≤ q) (h9 : q ≤ 1000000000) : ∃ k : Nat, k ≤ 40000 ∧ (∀ i : Nat, i < k → decide ((2 + (i : Int)) * (2 + i) ≤ q) = true) ∧ decide ((2 + (k : Int)) * (2 + k) ≤ q) = false := by
  obtain ⟨k, a, b, c⟩ := first_not (fun i : Nat => decide ((2 + (i : Int)) * (2 + i) ≤ q)) 40000 (decide_eq_false (by omega))
  exact ⟨k, a, b, c⟩
inductive rIsPrime : List PyData → Res → Prop
  | mk {q : Int} (h : PrimeI q) (h9 : q ≤ 1000000000) : rIsPrime [.int q] (.ok (.dat (.bool true)))
local macro_rules | `(tactic| wtm_at "nm") => `(tactic| first
  | ((with_reducible show Ev _ _ (.Name "n" _) _); exact nmF (by assumption) 0 (by rfl) rfl (by decide +kernel) (by decide +kernel) (by decide +kernel))
  | ((with_reducible show Ev _ _ (.Name "by" _) _); exact nmF (by assumption) 1 (by rfl) rfl (by decide +kernel) (by decide +kernel) (by decide +kernel)))
local macro_rules | `(tactic| wtm_at "own") => `(tactic| first
  | ((with_reducible show EvS _ _ (.Name "n" _) _ _); exact ownF (by assumption) 0 (by rfl) rfl (by decide +kernel) (by decide +kernel) (by decide +kernel))
  | ((with_reducible show EvS _ _ (.Name "by" _) _ _); exact ownF (by assumption) 1 (by rfl) rfl (by decide +kernel) (by decide +kernel) (by decide +kernel)))
local macro_rules | `(tactic| wtm_at "ownl") => `(tactic| first
  | ((with_reducible show EvL _ _ (.Name "n" _) _); exact ownlF (by assumption) 0 (by rfl) rfl (by decide +kernel) (by decide +kernel) (by decide +kernel))
  | ((with_reducible show EvL _ _ (.Name "by" _) _); exact ownlF (by assumption) 1 (by rfl) rfl (by decide +kernel) (by decide +kernel) (by decide +kernel)))
local macro_rules | `(tactic| wtm_at "set") => `(tactic| first
  | ((with_reducible show S1 _ _ (.Assign [.Name "n" _] _ _) _); refine' setF ?st1 ?st2 0 ?st3 ?st4 ?ste ?st5; (case' st1 => assumption); (case' st2 => assumption); (case' st3 => rfl); (case' st4 => decide +kernel); (case' ste => wtm_at "ev"); (case' st5 => rfl))
  | ((with_reducible show S1 _ _ (.Assign [.Name "by" _] _ _) _); refine' setF ?st1 ?st2 1 ?st3 ?st4 ?ste ?st5; (case' st1 => assumption); (case' st2 => assumption); (case' st3 => rfl); (case' st4 => decide +kernel); (case' ste => wtm_at "ev"); (case' st5 => rfl)))
local macro_rules | `(tactic| wtm_at "app") => `(tactic| first
  | ((with_reducible show S1 _ _ (.Expr (.Call (.Attribute (.Name "n" _) _ _) _ _ _) _) _); refine' appF ?ap1 0 ?ap2 ?ap3 ?ap4 ?ape ?aps ?ap5 ?ap6; (case' ap1 => assumption); (case' ap2 => rfl); (case' ap3 => rfl); (case' ap4 => decide +kernel); (case' ape => wtm_at "ev"); (case' aps => try (wtm_at "sz")); (case' ap5 => decide +kernel); (case' ap6 => decide +kernel))
  | ((with_reducible show S1 _ _ (.Expr (.Call (.Attribute (.Name "by" _) _ _) _ _ _) _) _); refine' appF ?ap1 1 ?ap2 ?ap3 ?ap4 ?ape ?aps ?ap5 ?ap6; (case' ap1 => assumption); (case' ap2 => rfl); (case' ap3 => rfl); (case' ap4 => decide +kernel); (case' ape => wtm_at "ev"); (case' aps => try (wtm_at "sz")); (case' ap5 => decide +kernel); (case' ap6 => decide +kernel)))
local macro_rules | `(tactic| wtm_at "put") => `(tactic| first
  | ((with_reducible show S1 _ _ (.Assign [.Subscript (.Name "n" _) _ _] _ _) _); refine' putF ?pu1 0 ?pu2 ?pu3 ?pu4 ?pue ?pui ?pu5 ?pu6 ?pu7 ?pu8; (case' pu1 => assumption); (case' pu2 => rfl); (case' pu3 => rfl); (case' pu4 => decide +kernel); (case' pue => wtm_at "ev"); (case' pui => wtm_at "ev"); (case' pu5 => try (wtm_at "sd")); (case' pu6 => try (wtm_at "sd")); (case' pu7 => decide +kernel); (case' pu8 => decide +kernel))
  | ((with_reducible show S1 _ _ (.Assign [.Subscript (.Name "by" _) _ _] _ _) _); refine' putF ?pu1 1 ?pu2 ?pu3 ?pu4 ?pue ?pui ?pu5 ?pu6 ?pu7 ?pu8; (case' pu1 => assumption); (case' pu2 => rfl); (case' pu3 => rfl); (case' pu4 => decide +kernel); (case' pue => wtm_at "ev"); (case' pui => wtm_at "ev"); (case' pu5 => try (wtm_at "sd")); (case' pu6 => try (wtm_at "sd")); (case' pu7 => decide +kernel); (case' pu8 => decide +kernel)))
local macro_rules | `(tactic| wtm_at "reto") => `(tactic| first
  | ((with_reducible show S1 _ _ (.Return (some (.Name "n" _)) _) _); exact retOF (by assumption) 0 (by rfl) rfl (by decide +kernel) (by decide +kernel) (by decide +kernel))
  | ((with_reducible show S1 _ _ (.Return (some (.Name "by" _)) _) _); exact retOF (by assumption) 1 (by rfl) rfl (by decide +kernel) (by decide +kernel) (by decide +kernel)))
local macro_rules | `(tactic| wtm_at "tgt") => `(tactic| first
  | ((with_reducible show PG _ (.Name "n" _) _); exact tgF (by assumption) (by assumption) 0 (by rfl) (by decide +kernel))
  | ((with_reducible show PG _ (.Name "by" _) _); exact tgF (by assumption) (by assumption) 1 (by rfl) (by decide +kernel)))
theorem ok_isprime {f : Addr} {fd : FuncData} (F : Fun K "_law_is_prime" "_law_is_prime" s__law_is_prime f fd) (hm : mg "_law_is_prime" = some (.ref f)) (b : Binds K fd ["n"] []) : Fn P w K mg base 1 "_law_is_prime" ["n"] rIsPrime := by
  refine fnF F hm b sc__law_is_prime (fun ds r h => by cases h; rfl) fun X hX hT ds r h => ?_
  cases h with
  | @mk q hq h9 =>
    have q2 := hq.1
    obtain ⟨k, k9, k1, k2⟩ := sq_stop q2 h9
    refine' sm_cons ?s1 ?_
    case' s1 => wtm_at "st"
    refine' sm_cons ?s2 ?_
    case' s2 =>
      refine' whileV hX (fun i => [.dat (.int q), .dat (.int (2 + (i : Int)))]) k (fun i => decide ((2 + (i : Int)) * (2 + i) ≤ q)) ?l (fun i hi => ?t) k1 k2 fun i hi => ?b3
      case' l => wtm_at "le"
      case' t =>
        have hc : CMul (2 + (i : Int)) (2 + i) := .inl (by omega)
        wtm_at "test"
      have hd := hq.2 (2 + i) (by omega) (of_decide_eq_true (k1 i hi))
      have p0 : 0 < 2 + (i : Int) := by omega
      refine' sm_cons (s1_if ?c4 (fun h => ?f4) fun _ => sm_nil) ?_
      case' c4 => wtm_at "test"
      case f4 => exact absurd (of_decide_eq_true h) hd
      refine' sm_le (sm_one ?s5) ?l5
      case' s5 => wtm_at "st"
      case' l5 => wtm_at "le"
    refine' sm_end ?s6
    case' s6 =>
      refine' s1_retE ?e6 ?e7
      case' e6 => wtm_at "ev"
      case e7 => rw [decide_eq_true (by omega)]
end
end W

namespace W
open PySem PySem.Spec PyProof.Rows L2 LR
section
variable {P : Program} {w : World} {K : PySem.W.Frag} {mg : Str → Option Value} {base : Heap}
inductive rSpan : List PyData → Res → Prop
  | mk {p : Int} {n : Nat} (hp : Prm p) (hn : n ≤ 3) : rSpan [.int p, .int n] (.ok (.own (.lst ((spanParts p n).map .int))))
local macro_rules | `(tactic| wtm_at "nm") => `(tactic| first
  | ((with_reducible show Ev _ _ (.Name "P" _) _); exact nmF (by assumption) 0 (by rfl) rfl (by decide +kernel) (by decide +kernel) (by decide +kernel))
  | ((with_reducible show Ev _ _ (.Name "many" _) _); exact nmF (by assumption) 1 (by rfl) rfl (by decide +kernel) (by decide +kernel) (by decide +kernel))
  | ((with_reducible show Ev _ _ (.Name "parts" _) _); exact nmF (by assumption) 2 (by rfl) rfl (by decide +kernel) (by decide +kernel) (by decide +kernel)))
local macro_rules | `(tactic| wtm_at "own") => `(tactic| first
  | ((with_reducible show EvS _ _ (.Name "P" _) _ _); exact ownF (by assumption) 0 (by rfl) rfl (by decide +kernel) (by decide +kernel) (by decide +kernel))
  | ((with_reducible show EvS _ _ (.Name "many" _) _ _); exact ownF (by assumption) 1 (by rfl) rfl (by decide +kernel) (by decide +kernel) (by decide +kernel))
  | ((with_reducible show EvS _ _ (.Name "parts" _) _ _); exact ownF (by assumption) 2 (by rfl) rfl (by decide +kernel) (by decide +kernel) (by decide +kernel)))
local macro_rules | `(tactic| wtm_at "ownl") => `(tactic| first
  | ((with_reducible show EvL _ _ (.Name "P" _) _); exact ownlF (by assumption) 0 (by rfl) rfl (by decide +kernel) (by decide +kernel) (by decide +kernel))
  | ((with_reducible show EvL _ _ (.Name "many" _) _); exact ownlF (by assumption) 1 (by rfl) rfl (by decide +kernel) (by decide +kernel) (by decide +kernel))
  | ((with_reducible show EvL _ _ (.Name "parts" _) _); exact ownlF (by assumption) 2 (by rfl) rfl (by decide +kernel) (by decide +kernel) (by decide +kernel)))
local macro_rules | `(tactic| wtm_at "set") => `(tactic| first
  | ((with_reducible show S1 _ _ (.Assign [.Name "P" _] _ _) _); refine' setF ?st1 ?st2 0 ?st3 ?st4 ?ste ?st5; (case' st1 => assumption); (case' st2 => assumption); (case' st3 => rfl); (case' st4 => decide +kernel); (case' ste => wtm_at "ev"); (case' st5 => rfl))
  | ((with_reducible show S1 _ _ (.Assign [.Name "many" _] _ _) _); refine' setF ?st1 ?st2 1 ?st3 ?st4 ?ste ?st5; (case' st1 => assumption); (case' st2 => assumption); (case' st3 => rfl); (case' st4 => decide +kernel); (case' ste => wtm_at "ev"); (case' st5 => rfl))
  | ((with_reducible show S1 _ _ (.Assign [.Name "parts" _] _ _) _); refine' setF ?st1 ?st2 2 ?st3 ?st4 ?ste ?st5; (case' st1 => assumption); (case' st2 => assumption); (case' st3 => rfl); (case' st4 => decide +kernel); (case' ste => wtm_at "ev"); (case' st5 => rfl)))
local macro_rules | `(tactic| wtm_at "app") => `(tactic| first
  | ((with_reducible show S1 _ _ (.Expr (.Call (.Attribute (.Name "P" _) _ _) _ _ _) _) _); refine' appF ?ap1 0 ?ap2 ?ap3 ?ap4 ?ape ?aps ?ap5 ?ap6; (case' ap1 => assumption); (case' ap2 => rfl); (case' ap3 => rfl); (case' ap4 => decide +kernel); (case' ape => wtm_at "ev"); (case' aps => try (wtm_at "sz")); (case' ap5 => decide +kernel); (case' ap6 => decide +kernel))
  | ((with_reducible show S1 _ _ (.Expr (.Call (.Attribute (.Name "many" _) _ _) _ _ _) _) _); refine' appF ?ap1 1 ?ap2 ?ap3 ?ap4 ?ape ?aps ?ap5 ?ap6; (case' ap1 => assumption); (case' ap2 => rfl); (case' ap3 => rfl); (case' ap4 => decide +kernel); (case' ape => wtm_at "ev"); (case' aps => try (wtm_at "sz")); (case' ap5 => decide +kernel); (case' ap6 => decide +kernel))
  | ((with_reducible show S1 _ _ (.Expr (.Call (.Attribute (.Name "parts" _) _ _) _ _ _) _) _); refine' appF ?ap1 2 ?ap2 ?ap3 ?ap4 ?ape ?aps ?ap5 ?ap6; (case' ap1 => assumption); (case' ap2 => rfl); (case' ap3 => rfl); (case' ap4 => decide +kernel); (case' ape => wtm_at "ev"); (case' aps => try (wtm_at "sz")); (case' ap5 => decide +kernel); (case' ap6 => decide +kernel)))
local macro_rules | `(tactic| wtm_at "put") => `(tactic| first
  | ((with_reducible show S1 _ _ (.Assign [.Subscript (.Name "P" _) _ _] _ _) _); refine' putF ?pu1 0 ?pu2 ?pu3 ?pu4 ?pue ?pui ?pu5 ?pu6 ?pu7 ?pu8; (case' pu1 => assumption); (case' pu2 => rfl); (case' pu3 => rfl); (case' pu4 => decide +kernel); (case' pue => wtm_at "ev"); (case' pui => wtm_at "ev"); (case' pu5 => try (wtm_at "sd")); (case' pu6 => try (wtm_at "sd")); (case' pu7 => decide +kernel); (case' pu8 => decide +kernel))
  | ((with_reducible show S1 _ _ (.Assign [.Subscript (.Name "many" _) _ _] _ _) _); refine' putF ?pu1 1 ?pu2 ?pu3 ?pu4 ?pue ?pui ?pu5 ?pu6 ?pu7 ?pu8; (case' pu1 => assumption); (case' pu2 => rfl); (case' pu3 => rfl); (case' pu4 => decide +kernel); (case' pue => wtm_at "ev"); (case' pui => wtm_at "ev"); (case' pu5 => try (wtm_at "sd")); (case' pu6 => try (wtm_at "sd")); (case' pu7 => decide +kernel); (case' pu8 => decide +kernel))
  | ((with_reducible show S1 _ _ (.Assign [.Subscript (.Name "parts" _) _ _] _ _) _); refine' putF ?pu1 2 ?pu2 ?pu3 ?pu4 ?pue ?pui ?pu5 ?pu6 ?pu7 ?pu8; (case' pu1 => assumption); (case' pu2 => rfl); (case' pu3 => rfl); (case' pu4 => decide +kernel); (case' pue => wtm_at "ev"); (case' pui => wtm_at "ev"); (case' pu5 => try (wtm_at "sd")); (case' pu6 => try (wtm_at "sd")); (case' pu7 => decide +kernel); (case' pu8 => decide +kernel)))
local macro_rules | `(tactic| wtm_at "reto") => `(tactic| first
  | ((with_reducible show S1 _ _ (.Return (some (.Name "P" _)) _) _); exact retOF (by assumption) 0 (by rfl) rfl (by decide +kernel) (by decide +kernel) (by decide +kernel))
  | ((with_reducible show S1 _ _ (.Return (some (.Name "many" _)) _) _); exact retOF (by assumption) 1 (by rfl) rfl (by decide +kernel) (by decide +kernel) (by decide +kernel))
  | ((with_reducible show S1 _ _ (.Return (some (.Name "parts" _)) _) _); exact retOF (by assumption) 2 (by rfl) rfl (by decide +kernel) (by decide +kernel) (by decide +kernel)))
local macro_rules | `(tactic| wtm_at "tgt") => `(tactic| first
  | ((with_reducible show PG _ (.Name "P" _) _); exact tgF (by assumption) (by assumption) 0 (by rfl) (by decide +kernel))
  | ((with_reducible show PG _ (.Name "many" _) _); exact tgF (by assumption) (by assumption) 1 (by rfl) (by decide +kernel))
  | ((with_reducible show PG _ (.Name "parts" _) _); exact tgF (by assumption) (by assumption) 2 (by rfl) (by decide +kernel)))
theorem ok_span {f : Addr} {fd : FuncData} (F : Fun K "parts_of_span" "parts_of_span" s_parts_of_span f fd) (hm : mg "parts_of_span" = some (.ref f)) (b : Binds K fd ["P", "many"] []) : Fn P w K mg base 1 "parts_of_span" ["P", "many"] rSpan := by
  refine fnF F hm b sc_parts_of_span (fun ds r h => by cases h; rfl) fun X hX hT ds r h => ?_
  cases h with
  | @mk p n hp hn =>
    have p3 := hp.lo
    have p9 := hp.hi
    have hc : CMul p p := .inl (by omega)
    refine' sm_cons ?s1 ?_
    case' s1 => wtm_at "st"
    refine' sm_cons (A1 := [.dat (.int p), .dat (.int n), .own (.lst (([p, p - 1] ++ (if 1 < n then [p + 1] else [])).map .int))]) ?s2 ?_
    case' s2 =>
      refine' s1_if ?c2 (fun h2 => ?t2) fun h2 => ?f2
      case' c2 => wtm_at "test"
      case' t2 =>
        rw [if_pos (show 1 < n by have := of_decide_eq_true h2; omega)]
        refine' sm_le (sm_one ?s3) ?l3
        case' s3 => wtm_at "st"
        case' l3 => wtm_at "le"
      case' f2 =>
        rw [if_neg (show ¬ 1 < n by have := of_decide_eq_false h2; omega)]
        refine' sm_le sm_nil ?l4
        case' l4 => wtm_at "le"
    have z1 : (([p, p - 1] ++ (if 1 < n then [p + 1] else [])).map PyData.int).length < sizeLine := by
      rw [sizeLine_eq]; split <;> simp
    refine' sm_cons (A1 := [.dat (.int p), .dat (.int n), .own (.lst (([p, p - 1] ++ (if 1 < n then [p + 1] else []) ++ (if 2 < n then [p * p + p + 1] else [])).map .int))]) ?s5 ?_
    case' s5 =>
      refine' s1_if ?c5 (fun h5 => ?t5) fun h5 => ?f5
      case' c5 => wtm_at "test"
      case' t5 =>
        rw [if_pos (show 2 < n by have := of_decide_eq_true h5; omega), List.map_append (l₂ := [p * p + p + 1])]
        refine' sm_le (sm_one ?s6) ?l6
        case' s6 => wtm_at "st"
        case' l6 => wtm_at "le"
      case' f5 =>
        rw [if_neg (show ¬ 2 < n by have := of_decide_eq_false h5; omega), List.append_nil]
        refine' sm_le sm_nil ?l7
        case' l7 => wtm_at "le"
    have z2 : (([p, p - 1] ++ (if 1 < n then [p + 1] else []) ++ (if 2 < n then [p * p + p + 1] else [])).map PyData.int).length < sizeLine := by
      rw [sizeLine_eq]; split <;> split <;> simp
    refine' sm_cons (A1 := [.dat (.int p), .dat (.int n), .own (.lst ((spanParts p n).map .int))]) ?s8 ?_
    case' s8 =>
      unfold spanParts
      refine' s1_if ?c8 (fun h8 => ?t8) fun h8 => ?f8
      case' c8 => wtm_at "test"
      case' t8 =>
        rw [if_pos (show p ≤ n from of_decide_eq_true h8), List.map_append (l₂ := [p])]
        refine' sm_le (sm_one ?s9) ?l9
        case' s9 => wtm_at "st"
        case' l9 => wtm_at "le"
      case' f8 =>
        rw [if_neg (show ¬ p ≤ n from of_decide_eq_false h8), List.append_nil]
        refine' sm_le sm_nil ?l10
        case' l10 => wtm_at "le"
    refine' sm_end ?s11
    case' s11 => wtm_at "st"
inductive rJumped : List PyData → Res → Prop
  | mk {p : Int} {n : Nat} {t : List (List Int)} {s : List Int} {m : Nat} {k : Int} (ht : Tbl p n t) (hs : RowOn p n s) (hp : Prm p) (hn : 1 ≤ n) (hn2 : n ≤ 3) (hm : m < 2 ^ 1000) (k0 : 0 ≤ k) (km : k.toNat ≤ m) : rJumped [.int p, .list ((ladderT p t m).map tT), .int k, tI s] (.ok (.dat (tI (orbV p t s k.toNat))))
local macro_rules | `(tactic| wtm_at "R") => `(tactic| first
  | ((with_reducible apply rTurnedT) <;> first | (with_reducible assumption) | omega)
  | (constructor; all_goals try (wtm_at "sd")))
local macro_rules | `(tactic| wtm_at "nm") => `(tactic| first
  | ((with_reducible show Ev _ _ (.Name "P" _) _); exact nmF (by assumption) 0 (by rfl) rfl (by decide +kernel) (by decide +kernel) (by decide +kernel))
  | ((with_reducible show Ev _ _ (.Name "steps" _) _); exact nmF (by assumption) 1 (by rfl) rfl (by decide +kernel) (by decide +kernel) (by decide +kernel))
  | ((with_reducible show Ev _ _ (.Name "n" _) _); exact nmF (by assumption) 2 (by rfl) rfl (by decide +kernel) (by decide +kernel) (by decide +kernel))
  | ((with_reducible show Ev _ _ (.Name "stand" _) _); exact nmF (by assumption) 3 (by rfl) rfl (by decide +kernel) (by decide +kernel) (by decide +kernel))
  | ((with_reducible show Ev _ _ (.Name "one" _) _); exact nmF (by assumption) 4 (by rfl) rfl (by decide +kernel) (by decide +kernel) (by decide +kernel)))
local macro_rules | `(tactic| wtm_at "own") => `(tactic| first
  | ((with_reducible show EvS _ _ (.Name "P" _) _ _); exact ownF (by assumption) 0 (by rfl) rfl (by decide +kernel) (by decide +kernel) (by decide +kernel))
  | ((with_reducible show EvS _ _ (.Name "steps" _) _ _); exact ownF (by assumption) 1 (by rfl) rfl (by decide +kernel) (by decide +kernel) (by decide +kernel))
  | ((with_reducible show EvS _ _ (.Name "n" _) _ _); exact ownF (by assumption) 2 (by rfl) rfl (by decide +kernel) (by decide +kernel) (by decide +kernel))
  | ((with_reducible show EvS _ _ (.Name "stand" _) _ _); exact ownF (by assumption) 3 (by rfl) rfl (by decide +kernel) (by decide +kernel) (by decide +kernel))
  | ((with_reducible show EvS _ _ (.Name "one" _) _ _); exact ownF (by assumption) 4 (by rfl) rfl (by decide +kernel) (by decide +kernel) (by decide +kernel)))
local macro_rules | `(tactic| wtm_at "ownl") => `(tactic| first
  | ((with_reducible show EvL _ _ (.Name "P" _) _); exact ownlF (by assumption) 0 (by rfl) rfl (by decide +kernel) (by decide +kernel) (by decide +kernel))
  | ((with_reducible show EvL _ _ (.Name "steps" _) _); exact ownlF (by assumption) 1 (by rfl) rfl (by decide +kernel) (by decide +kernel) (by decide +kernel))
  | ((with_reducible show EvL _ _ (.Name "n" _) _); exact ownlF (by assumption) 2 (by rfl) rfl (by decide +kernel) (by decide +kernel) (by decide +kernel))
  | ((with_reducible show EvL _ _ (.Name "stand" _) _); exact ownlF (by assumption) 3 (by rfl) rfl (by decide +kernel) (by decide +kernel) (by decide +kernel))
  | ((with_reducible show EvL _ _ (.Name "one" _) _); exact ownlF (by assumption) 4 (by rfl) rfl (by decide +kernel) (by decide +kernel) (by decide +kernel)))
local macro_rules | `(tactic| wtm_at "set") => `(tactic| first
  | ((with_reducible show S1 _ _ (.Assign [.Name "P" _] _ _) _); refine' setF ?st1 ?st2 0 ?st3 ?st4 ?ste ?st5; (case' st1 => assumption); (case' st2 => assumption); (case' st3 => rfl); (case' st4 => decide +kernel); (case' ste => wtm_at "ev"); (case' st5 => rfl))
  | ((with_reducible show S1 _ _ (.Assign [.Name "steps" _] _ _) _); refine' setF ?st1 ?st2 1 ?st3 ?st4 ?ste ?st5; (case' st1 => assumption); (case' st2 => assumption); (case' st3 => rfl); (case' st4 => decide +kernel); (case' ste => wtm_at "ev"); (case' st5 => rfl))
  | ((with_reducible show S1 _ _ (.Assign [.Name "n" _] _ _) _); refine' setF ?st1 ?st2 2 ?st3 ?st4 ?ste ?st5; (case' st1 => assumption); (case' st2 => assumption); (case' st3 => rfl); (case' st4 => decide +kernel); (case' ste => wtm_at "ev"); (case' st5 => rfl))
  | ((with_reducible show S1 _ _ (.Assign [.Name "stand" _] _ _) _); refine' setF ?st1 ?st2 3 ?st3 ?st4 ?ste ?st5; (case' st1 => assumption); (case' st2 => assumption); (case' st3 => rfl); (case' st4 => decide +kernel); (case' ste => wtm_at "ev"); (case' st5 => rfl))
  | ((with_reducible show S1 _ _ (.Assign [.Name "one" _] _ _) _); refine' setF ?st1 ?st2 4 ?st3 ?st4 ?ste ?st5; (case' st1 => assumption); (case' st2 => assumption); (case' st3 => rfl); (case' st4 => decide +kernel); (case' ste => wtm_at "ev"); (case' st5 => rfl)))
local macro_rules | `(tactic| wtm_at "app") => `(tactic| first
  | ((with_reducible show S1 _ _ (.Expr (.Call (.Attribute (.Name "P" _) _ _) _ _ _) _) _); refine' appF ?ap1 0 ?ap2 ?ap3 ?ap4 ?ape ?aps ?ap5 ?ap6; (case' ap1 => assumption); (case' ap2 => rfl); (case' ap3 => rfl); (case' ap4 => decide +kernel); (case' ape => wtm_at "ev"); (case' aps => try (wtm_at "sz")); (case' ap5 => decide +kernel); (case' ap6 => decide +kernel))
  | ((with_reducible show S1 _ _ (.Expr (.Call (.Attribute (.Name "steps" _) _ _) _ _ _) _) _); refine' appF ?ap1 1 ?ap2 ?ap3 ?ap4 ?ape ?aps ?ap5 ?ap6; (case' ap1 => assumption); (case' ap2 => rfl); (case' ap3 => rfl); (case' ap4 => decide +kernel); (case' ape => wtm_at "ev"); (case' aps => try (wtm_at "sz")); (case' ap5 => decide +kernel); (case' ap6 => decide +kernel))
  | ((with_reducible show S1 _ _ (.Expr (.Call (.Attribute (.Name "n" _) _ _) _ _ _) _) _); refine' appF ?ap1 2 ?ap2 ?ap3 ?ap4 ?ape ?aps ?ap5 ?ap6; (case' ap1 => assumption); (case' ap2 => rfl); (case' ap3 => rfl); (case' ap4 => decide +kernel); (case' ape => wtm_at "ev"); (case' aps => try (wtm_at "sz")); (case' ap5 => decide +kernel); (case' ap6 => decide +kernel))
  | ((with_reducible show S1 _ _ (.Expr (.Call (.Attribute (.Name "stand" _) _ _) _ _ _) _) _); refine' appF ?ap1 3 ?ap2 ?ap3 ?ap4 ?ape ?aps ?ap5 ?ap6; (case' ap1 => assumption); (case' ap2 => rfl); (case' ap3 => rfl); (case' ap4 => decide +kernel); (case' ape => wtm_at "ev"); (case' aps => try (wtm_at "sz")); (case' ap5 => decide +kernel); (case' ap6 => decide +kernel))
  | ((with_reducible show S1 _ _ (.Expr (.Call (.Attribute (.Name "one" _) _ _) _ _ _) _) _); refine' appF ?ap1 4 ?ap2 ?ap3 ?ap4 ?ape ?aps ?ap5 ?ap6; (case' ap1 => assumption); (case' ap2 => rfl); (case' ap3 => rfl); (case' ap4 => decide +kernel); (case' ape => wtm_at "ev"); (case' aps => try (wtm_at "sz")); (case' ap5 => decide +kernel); (case' ap6 => decide +kernel)))
local macro_rules | `(tactic| wtm_at "put") => `(tactic| first
  | ((with_reducible show S1 _ _ (.Assign [.Subscript (.Name "P" _) _ _] _ _) _); refine' putF ?pu1 0 ?pu2 ?pu3 ?pu4 ?pue ?pui ?pu5 ?pu6 ?pu7 ?pu8; (case' pu1 => assumption); (case' pu2 => rfl); (case' pu3 => rfl); (case' pu4 => decide +kernel); (case' pue => wtm_at "ev"); (case' pui => wtm_at "ev"); (case' pu5 => try (wtm_at "sd")); (case' pu6 => try (wtm_at "sd")); (case' pu7 => decide +kernel); (case' pu8 => decide +kernel))
  | ((with_reducible show S1 _ _ (.Assign [.Subscript (.Name "steps" _) _ _] _ _) _); refine' putF ?pu1 1 ?pu2 ?pu3 ?pu4 ?pue ?pui ?pu5 ?pu6 ?pu7 ?pu8; (case' pu1 => assumption); (case' pu2 => rfl); (case' pu3 => rfl); (case' pu4 => decide +kernel); (case' pue => wtm_at "ev"); (case' pui => wtm_at "ev"); (case' pu5 => try (wtm_at "sd")); (case' pu6 => try (wtm_at "sd")); (case' pu7 => decide +kernel); (case' pu8 => decide +kernel))
  | ((with_reducible show S1 _ _ (.Assign [.Subscript (.Name "n" _) _ _] _ _) _); refine' putF ?pu1 2 ?pu2 ?pu3 ?pu4 ?pue ?pui ?pu5 ?pu6 ?pu7 ?pu8; (case' pu1 => assumption); (case' pu2 => rfl); (case' pu3 => rfl); (case' pu4 => decide +kernel); (case' pue => wtm_at "ev"); (case' pui => wtm_at "ev"); (case' pu5 => try (wtm_at "sd")); (case' pu6 => try (wtm_at "sd")); (case' pu7 => decide +kernel); (case' pu8 => decide +kernel))
  | ((with_reducible show S1 _ _ (.Assign [.Subscript (.Name "stand" _) _ _] _ _) _); refine' putF ?pu1 3 ?pu2 ?pu3 ?pu4 ?pue ?pui ?pu5 ?pu6 ?pu7 ?pu8; (case' pu1 => assumption); (case' pu2 => rfl); (case' pu3 => rfl); (case' pu4 => decide +kernel); (case' pue => wtm_at "ev"); (case' pui => wtm_at "ev"); (case' pu5 => try (wtm_at "sd")); (case' pu6 => try (wtm_at "sd")); (case' pu7 => decide +kernel); (case' pu8 => decide +kernel))
  | ((with_reducible show S1 _ _ (.Assign [.Subscript (.Name "one" _) _ _] _ _) _); refine' putF ?pu1 4 ?pu2 ?pu3 ?pu4 ?pue ?pui ?pu5 ?pu6 ?pu7 ?pu8; (case' pu1 => assumption); (case' pu2 => rfl); (case' pu3 => rfl); (case' pu4 => decide +kernel); (case' pue => wtm_at "ev"); (case' pui => wtm_at "ev"); (case' pu5 => try (wtm_at "sd")); (case' pu6 => try (wtm_at "sd")); (case' pu7 => decide +kernel); (case' pu8 => decide +kernel)))
local macro_rules | `(tactic| wtm_at "reto") => `(tactic| first
  | ((with_reducible show S1 _ _ (.Return (some (.Name "P" _)) _) _); exact retOF (by assumption) 0 (by rfl) rfl (by decide +kernel) (by decide +kernel) (by decide +kernel))
  | ((with_reducible show S1 _ _ (.Return (some (.Name "steps" _)) _) _); exact retOF (by assumption) 1 (by rfl) rfl (by decide +kernel) (by decide +kernel) (by decide +kernel))
  | ((with_reducible show S1 _ _ (.Return (some (.Name "n" _)) _) _); exact retOF (by assumption) 2 (by rfl) rfl (by decide +kernel) (by decide +kernel) (by decide +kernel))
  | ((with_reducible show S1 _ _ (.Return (some (.Name "stand" _)) _) _); exact retOF (by assumption) 3 (by rfl) rfl (by decide +kernel) (by decide +kernel) (by decide +kernel))
  | ((with_reducible show S1 _ _ (.Return (some (.Name "one" _)) _) _); exact retOF (by assumption) 4 (by rfl) rfl (by decide +kernel) (by decide +kernel) (by decide +kernel)))
local macro_rules | `(tactic| wtm_at "tgt") => `(tactic| first
  | ((with_reducible show PG _ (.Name "P" _) _); exact tgF (by assumption) (by assumption) 0 (by rfl) (by decide +kernel))
  | ((with_reducible show PG _ (.Name "steps" _) _); exact tgF (by assumption) (by assumption) 1 (by rfl) (by decide +kernel))
  | ((with_reducible show PG _ (.Name "n" _) _); exact tgF (by assumption) (by assumption) 2 (by rfl) (by decide +kernel))
  | ((with_reducible show PG _ (.Name "stand" _) _); exact tgF (by assumption) (by assumption) 3 (by rfl) (by decide +kernel))
  | ((with_reducible show PG _ (.Name "one" _) _); exact tgF (by assumption) (by assumption) 4 (by rfl) (by decide +kernel)))
theorem ok_jumped {f : Addr} {fd : FuncData} (F : Fun K "jumped" "jumped" s_jumped f fd) (hm : mg "jumped" = some (.ref f)) (b : Binds K fd ["P", "steps", "n", "stand"] []) (Gt : Fn P w K mg base 3 "turned" ["P", "table", "stand"] rTurned) : Fn P w K mg base 4 "jumped" ["P", "steps", "n", "stand"] rJumped := by
  refine fnF F hm b sc_jumped (fun ds r h => by cases h; rfl) fun X hX hT ds r h => ?_
  cases h with
  | @mk p n t s m k ht hs hp hn hn2 hm k0 km =>
    obtain ⟨q, rfl⟩ := Int.eq_ofNat_of_zero_le k0
    rw [Int.toNat_natCast] at km ⊢
    have p3 := hp.lo
    have p9 := hp.hi
    have p0 : 0 < p := by omega
    refine' sm_cons ?s2 ?_
    case' s2 =>
      refine' forL hX 4 (ladderT p t m) tT (fun i => [.dat (.int p), .un, .dat (.int ((q / 2 ^ i : Nat) : Int)), .dat (tI (jmp p t q s i)), .un]) ?i2 ?r2 ?g2 ?l2 (fun _ => rfl) (fun i hi => ?b2)
      case' i2 => wtm_at "iter"
      case' r2 => rfl
      case' g2 => wtm_at "tgt"
      case' l2 => wtm_at "le"
      have e1 : (ladderT p t m)[i] = dbl p t i := by simp [ladderT]
      rw [e1]
      have hd := dbl_tbl p0 hn ht i
      have hj : (jmp p t q s i).length = n := by rw [jmp_orb hp ht hs hn]; exact (orb_on hp ht hs _).1
      refine' sm_cons (A1 := [.dat (.int p), .un, .dat (.int ((q / 2 ^ i : Nat) : Int)), .dat (tI (jmp p t q s (i + 1))), .un]) ?s4 ?_
      case' s4 =>
        refine' s1_if ?c4 (fun h4 => ?t4) fun h4 => ?f4
        case' c4 => wtm_at "test"
        case' t4 =>
          refine' sm_le (sm_one ?s5) ?l5
          case' s5 => wtm_at "st"
          case' l5 =>
            have e : jmp p t q s (i + 1) = turned p (dbl p t i) (jmp p t q s i) := by
              show (if _ then _ else _) = _
              rw [if_pos (by have := of_decide_eq_true h4; omega)]
            rw [e]
            wtm_at "le"
        case' f4 =>
          refine' sm_le sm_nil ?l6
          case' l6 =>
            have e : jmp p t q s (i + 1) = jmp p t q s i := by
              show (if _ then _ else _) = _
              rw [if_neg (by have := of_decide_eq_false h4; omega)]
            rw [e]
            wtm_at "le"
      refine' sm_le (sm_one ?s8) ?l8
      case' s8 => wtm_at "st"
      case' l8 =>
        rw [half_succ]
        wtm_at "le"
    have e9 : jmp p t q s (ladderT p t m).length = orbV p t s q := by
      rw [jmp_orb hp ht hs hn]
      congr 1
      refine Nat.mod_eq_of_lt ?_
      have e9 : (ladderT p t m).length = bitsN m := by simp [ladderT]
      rw [e9]
      rcases Nat.lt_or_ge m (2 ^ bitsN m) with z | z
      · omega
      · have := Nat.div_pos z (Nat.two_pow_pos _)
        have := bits_lt.mpr this
        omega
    rw [e9]
    refine' sm_end ?s9
    case' s9 => wtm_at "st"
noncomputable def ringD (p : Int) (n : Nat) (t : List (List Int)) (s : List Int) : PyData := .tuple [.int (rTail p n t s), .int (rLen p n t s), .list ((rPrimes p n t s).map .int)]
inductive rRing : List PyData → Res → Prop
  | mk {p : Int} {n : Nat} {its : List Item} {s : List Int} (hp : Prm p) (hg : Goods p n its) (hl : levs its ≤ 5) (hn : 1 ≤ n) (hn2 : n ≤ 3) (hs : RowOn p n s) : rRing [.int p, .int n, tIt its, tI s] (.ok (.dat (ringD p n (tabs p n its) s)))
  | own {p : Int} {n : Nat} {its : List Item} {s : List Int} (hp : Prm p) (hg : Goods p n its) (hl : levs its ≤ 5) (hn : 1 ≤ n) (hn2 : n ≤ 3) (hs : RowOn p n s) : rRing [.int p, .int n, tIt its, tI s] (.ok (.tpo [.int (rTail p n (tabs p n its) s), .int (rLen p n (tabs p n its) s)] ((rPrimes p n (tabs p n its) s).map .int)))
theorem rJumped_of {p : Int} {n : Nat} {t : List (List Int)} {s : List Int} {m : Nat} {k : Int} (ht : Tbl p n t) (hs : RowOn p n s) (hp : Prm p) (hn : 1 ≤ n) (hn2 : n ≤ 3) (hm : m < 2 ^ 1000) (k0 : 0 ≤ k) (km : k.toNat ≤ m) : rJumped [.int p, .list ((ladderT p t m).map tT), .int k, tI s] (.ok (.dat (tI (orbV p t s k.toNat)))) := .mk ht hs hp hn hn2 hm k0 km
theorem rLadder_of {p : Int} {n : Nat} {t : List (List Int)} {k : Int} (ht : Tbl p n t) (h : 0 < p) (h9 : p ≤ 9999) (hn : 1 ≤ n) (hn2 : n ≤ 100) (k0 : 0 ≤ k) (hm : k.toNat < 2 ^ 1000) : rLadder [.int p, tT t, .int k] (.ok (.own (.lst ((ladderT p t k.toNat).map tT)))) := by
  have := rLadder.mk (m := k.toNat) h h9 hn hn2 ht hm
  rwa [Int.toNat_of_nonneg k0] at this
local macro_rules | `(tactic| wtm_at "R") => `(tactic| first
  | ((with_reducible apply rJumped_of) <;> first | (with_reducible assumption) | omega)
  | ((with_reducible apply rTurnedT) <;> first | (with_reducible assumption) | omega)
  | ((with_reducible apply rTab.mk) <;> first | (with_reducible assumption) | omega)
  | ((with_reducible apply rLadder_of) <;> first | (with_reducible assumption) | omega)
  | ((with_reducible apply rPrimesOf.mk) <;> first | (with_reducible assumption) | omega)
  | ((with_reducible apply rSpan.mk) <;> first | (with_reducible assumption) | omega)
  | (constructor; all_goals try (wtm_at "sd")))
local macro_rules | `(tactic| wtm_at "nm") => `(tactic| first
  | ((with_reducible show Ev _ _ (.Name "P" _) _); exact nmF (by assumption) 0 (by rfl) rfl (by decide +kernel) (by decide +kernel) (by decide +kernel))
  | ((with_reducible show Ev _ _ (.Name "many" _) _); exact nmF (by assumption) 1 (by rfl) rfl (by decide +kernel) (by decide +kernel) (by decide +kernel))
  | ((with_reducible show Ev _ _ (.Name "items" _) _); exact nmF (by assumption) 2 (by rfl) rfl (by decide +kernel) (by decide +kernel) (by decide +kernel))
  | ((with_reducible show Ev _ _ (.Name "stand" _) _); exact nmF (by assumption) 3 (by rfl) rfl (by decide +kernel) (by decide +kernel) (by decide +kernel))
  | ((with_reducible show Ev _ _ (.Name "span" _) _); exact nmF (by assumption) 4 (by rfl) rfl (by decide +kernel) (by decide +kernel) (by decide +kernel))
  | ((with_reducible show Ev _ _ (.Name "primes" _) _); exact nmF (by assumption) 5 (by rfl) rfl (by decide +kernel) (by decide +kernel) (by decide +kernel))
  | ((with_reducible show Ev _ _ (.Name "part" _) _); exact nmF (by assumption) 6 (by rfl) rfl (by decide +kernel) (by decide +kernel) (by decide +kernel))
  | ((with_reducible show Ev _ _ (.Name "q" _) _); exact nmF (by assumption) 7 (by rfl) rfl (by decide +kernel) (by decide +kernel) (by decide +kernel))
  | ((with_reducible show Ev _ _ (.Name "table" _) _); exact nmF (by assumption) 8 (by rfl) rfl (by decide +kernel) (by decide +kernel) (by decide +kernel))
  | ((with_reducible show Ev _ _ (.Name "steps" _) _); exact nmF (by assumption) 9 (by rfl) rfl (by decide +kernel) (by decide +kernel) (by decide +kernel))
  | ((with_reducible show Ev _ _ (.Name "t" _) _); exact nmF (by assumption) 10 (by rfl) rfl (by decide +kernel) (by decide +kernel) (by decide +kernel))
  | ((with_reducible show Ev _ _ (.Name "r" _) _); exact nmF (by assumption) 11 (by rfl) rfl (by decide +kernel) (by decide +kernel) (by decide +kernel)))
local macro_rules | `(tactic| wtm_at "own") => `(tactic| first
  | ((with_reducible show EvS _ _ (.Name "P" _) _ _); exact ownF (by assumption) 0 (by rfl) rfl (by decide +kernel) (by decide +kernel) (by decide +kernel))
  | ((with_reducible show EvS _ _ (.Name "many" _) _ _); exact ownF (by assumption) 1 (by rfl) rfl (by decide +kernel) (by decide +kernel) (by decide +kernel))
  | ((with_reducible show EvS _ _ (.Name "items" _) _ _); exact ownF (by assumption) 2 (by rfl) rfl (by decide +kernel) (by decide +kernel) (by decide +kernel))
  | ((with_reducible show EvS _ _ (.Name "stand" _) _ _); exact ownF (by assumption) 3 (by rfl) rfl (by decide +kernel) (by decide +kernel) (by decide +kernel))
  | ((with_reducible show EvS _ _ (.Name "span" _) _ _); exact ownF (by assumption) 4 (by rfl) rfl (by decide +kernel) (by decide +kernel) (by decide +kernel))
  | ((with_reducible show EvS _ _ (.Name "primes" _) _ _); exact ownF (by assumption) 5 (by rfl) rfl (by decide +kernel) (by decide +kernel) (by decide +kernel))
  | ((with_reducible show EvS _ _ (.Name "part" _) _ _); exact ownF (by assumption) 6 (by rfl) rfl (by decide +kernel) (by decide +kernel) (by decide +kernel))
  | ((with_reducible show EvS _ _ (.Name "q" _) _ _); exact ownF (by assumption) 7 (by rfl) rfl (by decide +kernel) (by decide +kernel) (by decide +kernel))
  | ((with_reducible show EvS _ _ (.Name "table" _) _ _); exact ownF (by assumption) 8 (by rfl) rfl (by decide +kernel) (by decide +kernel) (by decide +kernel))
  | ((with_reducible show EvS _ _ (.Name "steps" _) _ _); exact ownF (by assumption) 9 (by rfl) rfl (by decide +kernel) (by decide +kernel) (by decide +kernel))
  | ((with_reducible show EvS _ _ (.Name "t" _) _ _); exact ownF (by assumption) 10 (by rfl) rfl (by decide +kernel) (by decide +kernel) (by decide +kernel))
  | ((with_reducible show EvS _ _ (.Name "r" _) _ _); exact ownF (by assumption) 11 (by rfl) rfl (by decide +kernel) (by decide +kernel) (by decide +kernel)))
local macro_rules | `(tactic| wtm_at "ownl") => `(tactic| first
  | ((with_reducible show EvL _ _ (.Name "P" _) _); exact ownlF (by assumption) 0 (by rfl) rfl (by decide +kernel) (by decide +kernel) (by decide +kernel))
  | ((with_reducible show EvL _ _ (.Name "many" _) _); exact ownlF (by assumption) 1 (by rfl) rfl (by decide +kernel) (by decide +kernel) (by decide +kernel))
  | ((with_reducible show EvL _ _ (.Name "items" _) _); exact ownlF (by assumption) 2 (by rfl) rfl (by decide +kernel) (by decide +kernel) (by decide +kernel))
  | ((with_reducible show EvL _ _ (.Name "stand" _) _); exact ownlF (by assumption) 3 (by rfl) rfl (by decide +kernel) (by decide +kernel) (by decide +kernel))
  | ((with_reducible show EvL _ _ (.Name "span" _) _); exact ownlF (by assumption) 4 (by rfl) rfl (by decide +kernel) (by decide +kernel) (by decide +kernel))
  | ((with_reducible show EvL _ _ (.Name "primes" _) _); exact ownlF (by assumption) 5 (by rfl) rfl (by decide +kernel) (by decide +kernel) (by decide +kernel))
  | ((with_reducible show EvL _ _ (.Name "part" _) _); exact ownlF (by assumption) 6 (by rfl) rfl (by decide +kernel) (by decide +kernel) (by decide +kernel))
  | ((with_reducible show EvL _ _ (.Name "q" _) _); exact ownlF (by assumption) 7 (by rfl) rfl (by decide +kernel) (by decide +kernel) (by decide +kernel))
  | ((with_reducible show EvL _ _ (.Name "table" _) _); exact ownlF (by assumption) 8 (by rfl) rfl (by decide +kernel) (by decide +kernel) (by decide +kernel))
  | ((with_reducible show EvL _ _ (.Name "steps" _) _); exact ownlF (by assumption) 9 (by rfl) rfl (by decide +kernel) (by decide +kernel) (by decide +kernel))
  | ((with_reducible show EvL _ _ (.Name "t" _) _); exact ownlF (by assumption) 10 (by rfl) rfl (by decide +kernel) (by decide +kernel) (by decide +kernel))
  | ((with_reducible show EvL _ _ (.Name "r" _) _); exact ownlF (by assumption) 11 (by rfl) rfl (by decide +kernel) (by decide +kernel) (by decide +kernel)))
local macro_rules | `(tactic| wtm_at "set") => `(tactic| first
  | ((with_reducible show S1 _ _ (.Assign [.Name "P" _] _ _) _); refine' setF ?st1 ?st2 0 ?st3 ?st4 ?ste ?st5; (case' st1 => assumption); (case' st2 => assumption); (case' st3 => rfl); (case' st4 => decide +kernel); (case' ste => wtm_at "ev"); (case' st5 => rfl))
  | ((with_reducible show S1 _ _ (.Assign [.Name "many" _] _ _) _); refine' setF ?st1 ?st2 1 ?st3 ?st4 ?ste ?st5; (case' st1 => assumption); (case' st2 => assumption); (case' st3 => rfl); (case' st4 => decide +kernel); (case' ste => wtm_at "ev"); (case' st5 => rfl))
  | ((with_reducible show S1 _ _ (.Assign [.Name "items" _] _ _) _); refine' setF ?st1 ?st2 2 ?st3 ?st4 ?ste ?st5; (case' st1 => assumption); (case' st2 => assumption); (case' st3 => rfl); (case' st4 => decide +kernel); (case' ste => wtm_at "ev"); (case' st5 => rfl))
  | ((with_reducible show S1 _ _ (.Assign [.Name "stand" _] _ _) _); refine' setF ?st1 ?st2 3 ?st3 ?st4 ?ste ?st5; (case' st1 => assumption); (case' st2 => assumption); (case' st3 => rfl); (case' st4 => decide +kernel); (case' ste => wtm_at "ev"); (case' st5 => rfl))
  | ((with_reducible show S1 _ _ (.Assign [.Name "span" _] _ _) _); refine' setF ?st1 ?st2 4 ?st3 ?st4 ?ste ?st5; (case' st1 => assumption); (case' st2 => assumption); (case' st3 => rfl); (case' st4 => decide +kernel); (case' ste => wtm_at "ev"); (case' st5 => rfl))
  | ((with_reducible show S1 _ _ (.Assign [.Name "primes" _] _ _) _); refine' setF ?st1 ?st2 5 ?st3 ?st4 ?ste ?st5; (case' st1 => assumption); (case' st2 => assumption); (case' st3 => rfl); (case' st4 => decide +kernel); (case' ste => wtm_at "ev"); (case' st5 => rfl))
  | ((with_reducible show S1 _ _ (.Assign [.Name "part" _] _ _) _); refine' setF ?st1 ?st2 6 ?st3 ?st4 ?ste ?st5; (case' st1 => assumption); (case' st2 => assumption); (case' st3 => rfl); (case' st4 => decide +kernel); (case' ste => wtm_at "ev"); (case' st5 => rfl))
  | ((with_reducible show S1 _ _ (.Assign [.Name "q" _] _ _) _); refine' setF ?st1 ?st2 7 ?st3 ?st4 ?ste ?st5; (case' st1 => assumption); (case' st2 => assumption); (case' st3 => rfl); (case' st4 => decide +kernel); (case' ste => wtm_at "ev"); (case' st5 => rfl))
  | ((with_reducible show S1 _ _ (.Assign [.Name "table" _] _ _) _); refine' setF ?st1 ?st2 8 ?st3 ?st4 ?ste ?st5; (case' st1 => assumption); (case' st2 => assumption); (case' st3 => rfl); (case' st4 => decide +kernel); (case' ste => wtm_at "ev"); (case' st5 => rfl))
  | ((with_reducible show S1 _ _ (.Assign [.Name "steps" _] _ _) _); refine' setF ?st1 ?st2 9 ?st3 ?st4 ?ste ?st5; (case' st1 => assumption); (case' st2 => assumption); (case' st3 => rfl); (case' st4 => decide +kernel); (case' ste => wtm_at "ev"); (case' st5 => rfl))
  | ((with_reducible show S1 _ _ (.Assign [.Name "t" _] _ _) _); refine' setF ?st1 ?st2 10 ?st3 ?st4 ?ste ?st5; (case' st1 => assumption); (case' st2 => assumption); (case' st3 => rfl); (case' st4 => decide +kernel); (case' ste => wtm_at "ev"); (case' st5 => rfl))
  | ((with_reducible show S1 _ _ (.Assign [.Name "r" _] _ _) _); refine' setF ?st1 ?st2 11 ?st3 ?st4 ?ste ?st5; (case' st1 => assumption); (case' st2 => assumption); (case' st3 => rfl); (case' st4 => decide +kernel); (case' ste => wtm_at "ev"); (case' st5 => rfl)))
local macro_rules | `(tactic| wtm_at "app") => `(tactic| first
  | ((with_reducible show S1 _ _ (.Expr (.Call (.Attribute (.Name "P" _) _ _) _ _ _) _) _); refine' appF ?ap1 0 ?ap2 ?ap3 ?ap4 ?ape ?aps ?ap5 ?ap6; (case' ap1 => assumption); (case' ap2 => rfl); (case' ap3 => rfl); (case' ap4 => decide +kernel); (case' ape => wtm_at "ev"); (case' aps => try (wtm_at "sz")); (case' ap5 => decide +kernel); (case' ap6 => decide +kernel))
  | ((with_reducible show S1 _ _ (.Expr (.Call (.Attribute (.Name "many" _) _ _) _ _ _) _) _); refine' appF ?ap1 1 ?ap2 ?ap3 ?ap4 ?ape ?aps ?ap5 ?ap6; (case' ap1 => assumption); (case' ap2 => rfl); (case' ap3 => rfl); (case' ap4 => decide +kernel); (case' ape => wtm_at "ev"); (case' aps => try (wtm_at "sz")); (case' ap5 => decide +kernel); (case' ap6 => decide +kernel))
  | ((with_reducible show S1 _ _ (.Expr (.Call (.Attribute (.Name "items" _) _ _) _ _ _) _) _); refine' appF ?ap1 2 ?ap2 ?ap3 ?ap4 ?ape ?aps ?ap5 ?ap6; (case' ap1 => assumption); (case' ap2 => rfl); (case' ap3 => rfl); (case' ap4 => decide +kernel); (case' ape => wtm_at "ev"); (case' aps => try (wtm_at "sz")); (case' ap5 => decide +kernel); (case' ap6 => decide +kernel))
  | ((with_reducible show S1 _ _ (.Expr (.Call (.Attribute (.Name "stand" _) _ _) _ _ _) _) _); refine' appF ?ap1 3 ?ap2 ?ap3 ?ap4 ?ape ?aps ?ap5 ?ap6; (case' ap1 => assumption); (case' ap2 => rfl); (case' ap3 => rfl); (case' ap4 => decide +kernel); (case' ape => wtm_at "ev"); (case' aps => try (wtm_at "sz")); (case' ap5 => decide +kernel); (case' ap6 => decide +kernel))
  | ((with_reducible show S1 _ _ (.Expr (.Call (.Attribute (.Name "span" _) _ _) _ _ _) _) _); refine' appF ?ap1 4 ?ap2 ?ap3 ?ap4 ?ape ?aps ?ap5 ?ap6; (case' ap1 => assumption); (case' ap2 => rfl); (case' ap3 => rfl); (case' ap4 => decide +kernel); (case' ape => wtm_at "ev"); (case' aps => try (wtm_at "sz")); (case' ap5 => decide +kernel); (case' ap6 => decide +kernel))
  | ((with_reducible show S1 _ _ (.Expr (.Call (.Attribute (.Name "primes" _) _ _) _ _ _) _) _); refine' appF ?ap1 5 ?ap2 ?ap3 ?ap4 ?ape ?aps ?ap5 ?ap6; (case' ap1 => assumption); (case' ap2 => rfl); (case' ap3 => rfl); (case' ap4 => decide +kernel); (case' ape => wtm_at "ev"); (case' aps => try (wtm_at "sz")); (case' ap5 => decide +kernel); (case' ap6 => decide +kernel))
  | ((with_reducible show S1 _ _ (.Expr (.Call (.Attribute (.Name "part" _) _ _) _ _ _) _) _); refine' appF ?ap1 6 ?ap2 ?ap3 ?ap4 ?ape ?aps ?ap5 ?ap6; (case' ap1 => assumption); (case' ap2 => rfl); (case' ap3 => rfl); (case' ap4 => decide +kernel); (case' ape => wtm_at "ev"); (case' aps => try (wtm_at "sz")); (case' ap5 => decide +kernel); (case' ap6 => decide +kernel))
  | ((with_reducible show S1 _ _ (.Expr (.Call (.Attribute (.Name "q" _) _ _) _ _ _) _) _); refine' appF ?ap1 7 ?ap2 ?ap3 ?ap4 ?ape ?aps ?ap5 ?ap6; (case' ap1 => assumption); (case' ap2 => rfl); (case' ap3 => rfl); (case' ap4 => decide +kernel); (case' ape => wtm_at "ev"); (case' aps => try (wtm_at "sz")); (case' ap5 => decide +kernel); (case' ap6 => decide +kernel))
  | ((with_reducible show S1 _ _ (.Expr (.Call (.Attribute (.Name "table" _) _ _) _ _ _) _) _); refine' appF ?ap1 8 ?ap2 ?ap3 ?ap4 ?ape ?aps ?ap5 ?ap6; (case' ap1 => assumption); (case' ap2 => rfl); (case' ap3 => rfl); (case' ap4 => decide +kernel); (case' ape => wtm_at "ev"); (case' aps => try (wtm_at "sz")); (case' ap5 => decide +kernel); (case' ap6 => decide +kernel))
  | ((with_reducible show S1 _ _ (.Expr (.Call (.Attribute (.Name "steps" _) _ _) _ _ _) _) _); refine' appF ?ap1 9 ?ap2 ?ap3 ?ap4 ?ape ?aps ?ap5 ?ap6; (case' ap1 => assumption); (case' ap2 => rfl); (case' ap3 => rfl); (case' ap4 => decide +kernel); (case' ape => wtm_at "ev"); (case' aps => try (wtm_at "sz")); (case' ap5 => decide +kernel); (case' ap6 => decide +kernel))
  | ((with_reducible show S1 _ _ (.Expr (.Call (.Attribute (.Name "t" _) _ _) _ _ _) _) _); refine' appF ?ap1 10 ?ap2 ?ap3 ?ap4 ?ape ?aps ?ap5 ?ap6; (case' ap1 => assumption); (case' ap2 => rfl); (case' ap3 => rfl); (case' ap4 => decide +kernel); (case' ape => wtm_at "ev"); (case' aps => try (wtm_at "sz")); (case' ap5 => decide +kernel); (case' ap6 => decide +kernel))
  | ((with_reducible show S1 _ _ (.Expr (.Call (.Attribute (.Name "r" _) _ _) _ _ _) _) _); refine' appF ?ap1 11 ?ap2 ?ap3 ?ap4 ?ape ?aps ?ap5 ?ap6; (case' ap1 => assumption); (case' ap2 => rfl); (case' ap3 => rfl); (case' ap4 => decide +kernel); (case' ape => wtm_at "ev"); (case' aps => try (wtm_at "sz")); (case' ap5 => decide +kernel); (case' ap6 => decide +kernel)))
local macro_rules | `(tactic| wtm_at "put") => `(tactic| first
  | ((with_reducible show S1 _ _ (.Assign [.Subscript (.Name "P" _) _ _] _ _) _); refine' putF ?pu1 0 ?pu2 ?pu3 ?pu4 ?pue ?pui ?pu5 ?pu6 ?pu7 ?pu8; (case' pu1 => assumption); (case' pu2 => rfl); (case' pu3 => rfl); (case' pu4 => decide +kernel); (case' pue => wtm_at "ev"); (case' pui => wtm_at "ev"); (case' pu5 => try (wtm_at "sd")); (case' pu6 => try (wtm_at "sd")); (case' pu7 => decide +kernel); (case' pu8 => decide +kernel))
  | ((with_reducible show S1 _ _ (.Assign [.Subscript (.Name "many" _) _ _] _ _) _); refine' putF ?pu1 1 ?pu2 ?pu3 ?pu4 ?pue ?pui ?pu5 ?pu6 ?pu7 ?pu8; (case' pu1 => assumption); (case' pu2 => rfl); (case' pu3 => rfl); (case' pu4 => decide +kernel); (case' pue => wtm_at "ev"); (case' pui => wtm_at "ev"); (case' pu5 => try (wtm_at "sd")); (case' pu6 => try (wtm_at "sd")); (case' pu7 => decide +kernel); (case' pu8 => decide +kernel))
  | ((with_reducible show S1 _ _ (.Assign [.Subscript (.Name "items" _) _ _] _ _) _); refine' putF ?pu1 2 ?pu2 ?pu3 ?pu4 ?pue ?pui ?pu5 ?pu6 ?pu7 ?pu8; (case' pu1 => assumption); (case' pu2 => rfl); (case' pu3 => rfl); (case' pu4 => decide +kernel); (case' pue => wtm_at "ev"); (case' pui => wtm_at "ev"); (case' pu5 => try (wtm_at "sd")); (case' pu6 => try (wtm_at "sd")); (case' pu7 => decide +kernel); (case' pu8 => decide +kernel))
  | ((with_reducible show S1 _ _ (.Assign [.Subscript (.Name "stand" _) _ _] _ _) _); refine' putF ?pu1 3 ?pu2 ?pu3 ?pu4 ?pue ?pui ?pu5 ?pu6 ?pu7 ?pu8; (case' pu1 => assumption); (case' pu2 => rfl); (case' pu3 => rfl); (case' pu4 => decide +kernel); (case' pue => wtm_at "ev"); (case' pui => wtm_at "ev"); (case' pu5 => try (wtm_at "sd")); (case' pu6 => try (wtm_at "sd")); (case' pu7 => decide +kernel); (case' pu8 => decide +kernel))
  | ((with_reducible show S1 _ _ (.Assign [.Subscript (.Name "span" _) _ _] _ _) _); refine' putF ?pu1 4 ?pu2 ?pu3 ?pu4 ?pue ?pui ?pu5 ?pu6 ?pu7 ?pu8; (case' pu1 => assumption); (case' pu2 => rfl); (case' pu3 => rfl); (case' pu4 => decide +kernel); (case' pue => wtm_at "ev"); (case' pui => wtm_at "ev"); (case' pu5 => try (wtm_at "sd")); (case' pu6 => try (wtm_at "sd")); (case' pu7 => decide +kernel); (case' pu8 => decide +kernel))
  | ((with_reducible show S1 _ _ (.Assign [.Subscript (.Name "primes" _) _ _] _ _) _); refine' putF ?pu1 5 ?pu2 ?pu3 ?pu4 ?pue ?pui ?pu5 ?pu6 ?pu7 ?pu8; (case' pu1 => assumption); (case' pu2 => rfl); (case' pu3 => rfl); (case' pu4 => decide +kernel); (case' pue => wtm_at "ev"); (case' pui => wtm_at "ev"); (case' pu5 => try (wtm_at "sd")); (case' pu6 => try (wtm_at "sd")); (case' pu7 => decide +kernel); (case' pu8 => decide +kernel))
  | ((with_reducible show S1 _ _ (.Assign [.Subscript (.Name "part" _) _ _] _ _) _); refine' putF ?pu1 6 ?pu2 ?pu3 ?pu4 ?pue ?pui ?pu5 ?pu6 ?pu7 ?pu8; (case' pu1 => assumption); (case' pu2 => rfl); (case' pu3 => rfl); (case' pu4 => decide +kernel); (case' pue => wtm_at "ev"); (case' pui => wtm_at "ev"); (case' pu5 => try (wtm_at "sd")); (case' pu6 => try (wtm_at "sd")); (case' pu7 => decide +kernel); (case' pu8 => decide +kernel))
  | ((with_reducible show S1 _ _ (.Assign [.Subscript (.Name "q" _) _ _] _ _) _); refine' putF ?pu1 7 ?pu2 ?pu3 ?pu4 ?pue ?pui ?pu5 ?pu6 ?pu7 ?pu8; (case' pu1 => assumption); (case' pu2 => rfl); (case' pu3 => rfl); (case' pu4 => decide +kernel); (case' pue => wtm_at "ev"); (case' pui => wtm_at "ev"); (case' pu5 => try (wtm_at "sd")); (case' pu6 => try (wtm_at "sd")); (case' pu7 => decide +kernel); (case' pu8 => decide +kernel))
  | ((with_reducible show S1 _ _ (.Assign [.Subscript (.Name "table" _) _ _] _ _) _); refine' putF ?pu1 8 ?pu2 ?pu3 ?pu4 ?pue ?pui ?pu5 ?pu6 ?pu7 ?pu8; (case' pu1 => assumption); (case' pu2 => rfl); (case' pu3 => rfl); (case' pu4 => decide +kernel); (case' pue => wtm_at "ev"); (case' pui => wtm_at "ev"); (case' pu5 => try (wtm_at "sd")); (case' pu6 => try (wtm_at "sd")); (case' pu7 => decide +kernel); (case' pu8 => decide +kernel))
  | ((with_reducible show S1 _ _ (.Assign [.Subscript (.Name "steps" _) _ _] _ _) _); refine' putF ?pu1 9 ?pu2 ?pu3 ?pu4 ?pue ?pui ?pu5 ?pu6 ?pu7 ?pu8; (case' pu1 => assumption); (case' pu2 => rfl); (case' pu3 => rfl); (case' pu4 => decide +kernel); (case' pue => wtm_at "ev"); (case' pui => wtm_at "ev"); (case' pu5 => try (wtm_at "sd")); (case' pu6 => try (wtm_at "sd")); (case' pu7 => decide +kernel); (case' pu8 => decide +kernel))
  | ((with_reducible show S1 _ _ (.Assign [.Subscript (.Name "t" _) _ _] _ _) _); refine' putF ?pu1 10 ?pu2 ?pu3 ?pu4 ?pue ?pui ?pu5 ?pu6 ?pu7 ?pu8; (case' pu1 => assumption); (case' pu2 => rfl); (case' pu3 => rfl); (case' pu4 => decide +kernel); (case' pue => wtm_at "ev"); (case' pui => wtm_at "ev"); (case' pu5 => try (wtm_at "sd")); (case' pu6 => try (wtm_at "sd")); (case' pu7 => decide +kernel); (case' pu8 => decide +kernel))
  | ((with_reducible show S1 _ _ (.Assign [.Subscript (.Name "r" _) _ _] _ _) _); refine' putF ?pu1 11 ?pu2 ?pu3 ?pu4 ?pue ?pui ?pu5 ?pu6 ?pu7 ?pu8; (case' pu1 => assumption); (case' pu2 => rfl); (case' pu3 => rfl); (case' pu4 => decide +kernel); (case' pue => wtm_at "ev"); (case' pui => wtm_at "ev"); (case' pu5 => try (wtm_at "sd")); (case' pu6 => try (wtm_at "sd")); (case' pu7 => decide +kernel); (case' pu8 => decide +kernel)))
local macro_rules | `(tactic| wtm_at "reto") => `(tactic| first
  | ((with_reducible show S1 _ _ (.Return (some (.Name "P" _)) _) _); exact retOF (by assumption) 0 (by rfl) rfl (by decide +kernel) (by decide +kernel) (by decide +kernel))
  | ((with_reducible show S1 _ _ (.Return (some (.Name "many" _)) _) _); exact retOF (by assumption) 1 (by rfl) rfl (by decide +kernel) (by decide +kernel) (by decide +kernel))
  | ((with_reducible show S1 _ _ (.Return (some (.Name "items" _)) _) _); exact retOF (by assumption) 2 (by rfl) rfl (by decide +kernel) (by decide +kernel) (by decide +kernel))
  | ((with_reducible show S1 _ _ (.Return (some (.Name "stand" _)) _) _); exact retOF (by assumption) 3 (by rfl) rfl (by decide +kernel) (by decide +kernel) (by decide +kernel))
  | ((with_reducible show S1 _ _ (.Return (some (.Name "span" _)) _) _); exact retOF (by assumption) 4 (by rfl) rfl (by decide +kernel) (by decide +kernel) (by decide +kernel))
  | ((with_reducible show S1 _ _ (.Return (some (.Name "primes" _)) _) _); exact retOF (by assumption) 5 (by rfl) rfl (by decide +kernel) (by decide +kernel) (by decide +kernel))
  | ((with_reducible show S1 _ _ (.Return (some (.Name "part" _)) _) _); exact retOF (by assumption) 6 (by rfl) rfl (by decide +kernel) (by decide +kernel) (by decide +kernel))
  | ((with_reducible show S1 _ _ (.Return (some (.Name "q" _)) _) _); exact retOF (by assumption) 7 (by rfl) rfl (by decide +kernel) (by decide +kernel) (by decide +kernel))
  | ((with_reducible show S1 _ _ (.Return (some (.Name "table" _)) _) _); exact retOF (by assumption) 8 (by rfl) rfl (by decide +kernel) (by decide +kernel) (by decide +kernel))
  | ((with_reducible show S1 _ _ (.Return (some (.Name "steps" _)) _) _); exact retOF (by assumption) 9 (by rfl) rfl (by decide +kernel) (by decide +kernel) (by decide +kernel))
  | ((with_reducible show S1 _ _ (.Return (some (.Name "t" _)) _) _); exact retOF (by assumption) 10 (by rfl) rfl (by decide +kernel) (by decide +kernel) (by decide +kernel))
  | ((with_reducible show S1 _ _ (.Return (some (.Name "r" _)) _) _); exact retOF (by assumption) 11 (by rfl) rfl (by decide +kernel) (by decide +kernel) (by decide +kernel)))
local macro_rules | `(tactic| wtm_at "tgt") => `(tactic| first
  | ((with_reducible show PG _ (.Name "P" _) _); exact tgF (by assumption) (by assumption) 0 (by rfl) (by decide +kernel))
  | ((with_reducible show PG _ (.Name "many" _) _); exact tgF (by assumption) (by assumption) 1 (by rfl) (by decide +kernel))
  | ((with_reducible show PG _ (.Name "items" _) _); exact tgF (by assumption) (by assumption) 2 (by rfl) (by decide +kernel))
  | ((with_reducible show PG _ (.Name "stand" _) _); exact tgF (by assumption) (by assumption) 3 (by rfl) (by decide +kernel))
  | ((with_reducible show PG _ (.Name "span" _) _); exact tgF (by assumption) (by assumption) 4 (by rfl) (by decide +kernel))
  | ((with_reducible show PG _ (.Name "primes" _) _); exact tgF (by assumption) (by assumption) 5 (by rfl) (by decide +kernel))
  | ((with_reducible show PG _ (.Name "part" _) _); exact tgF (by assumption) (by assumption) 6 (by rfl) (by decide +kernel))
  | ((with_reducible show PG _ (.Name "q" _) _); exact tgF (by assumption) (by assumption) 7 (by rfl) (by decide +kernel))
  | ((with_reducible show PG _ (.Name "table" _) _); exact tgF (by assumption) (by assumption) 8 (by rfl) (by decide +kernel))
  | ((with_reducible show PG _ (.Name "steps" _) _); exact tgF (by assumption) (by assumption) 9 (by rfl) (by decide +kernel))
  | ((with_reducible show PG _ (.Name "t" _) _); exact tgF (by assumption) (by assumption) 10 (by rfl) (by decide +kernel))
  | ((with_reducible show PG _ (.Name "r" _) _); exact tgF (by assumption) (by assumption) 11 (by rfl) (by decide +kernel)))
theorem ok_ring {f : Addr} {fd : FuncData} (F : Fun K "ring" "ring" s_ring f fd) (hm : mg "ring" = some (.ref f)) (b : Binds K fd ["P", "many", "items", "stand"] []) (mso : mg "sorted" = none) (Gt : Fn P w K mg base 3 "turned" ["P", "table", "stand"] rTurned) (Gj : Fn P w K mg base 4 "jumped" ["P", "steps", "n", "stand"] rJumped)
    (Gl : Fn P w K mg base 4 "ladder" ["P", "table", "n"] rLadder) (Gtab : Fn P w K mg base 11 "table_of" ["P", "many", "items"] (rTab 5)) (Gsp : Fn P w K mg base 1 "parts_of_span" ["P", "many"] rSpan) (Gpr : Fn P w K mg base 1 "primes_of" ["n"] rPrimesOf) : Fn P w K mg base 12 "ring" ["P", "many", "items", "stand"] rRing := by
  refine fnF F hm b sc_ring (fun ds r h => by cases h <;> rfl) fun X hX hT ds res h => ?_
  obtain ⟨p, n, its, s, c, rfl, rfl, hcc, hp, hg, hl, hn, hn2, hs⟩ : ∃ (p : Int) (n : Nat) (its : List Item) (s : List Int) (c : C), ds = [.int p, .int n, tIt its, tI s] ∧ res = .ok c ∧ (c = .dat (.tuple [.int (rTail p n (tabs p n its) s), .int (rLen p n (tabs p n its) s), .list ((rPrimes p n (tabs p n its) s).map .int)]) ∨ c = .tpo [.int (rTail p n (tabs p n its) s), .int (rLen p n (tabs p n its) s)] ((rPrimes p n (tabs p n its) s).map .int)) ∧ Prm p ∧ Goods p n its ∧ levs its ≤ 5 ∧ 1 ≤ n ∧ n ≤ 3 ∧ RowOn p n s := by
    cases h with
    | @mk p n its s hp hg hl hn hn2 hs => exact ⟨p, n, its, s, _, rfl, rfl, .inl rfl, hp, hg, hl, hn, hn2, hs⟩
    | @own p n its s hp hg hl hn hn2 hs => exact ⟨p, n, its, s, _, rfl, rfl, .inr rfl, hp, hg, hl, hn, hn2, hs⟩
  clear h
  have p3 := hp.lo
  have p9 := hp.hi
  have p2 : 1 < p := by omega
  have ti := tabs_tbl p2 hn hg
  have po := parts_ok hp hn2
  have sl := span_lo hp hn hn2
  have sh := span_hi hp hn hn2
  refine' sm_cons ?s1 ?_
  case' s1 => wtm_at "st"
  refine' sm_cons (A1 := [.dat (.int p), .dat (.int n), .dat (tIt its), .dat (tI s), .dat (.int 1), .own (.dct []), .un, .un, .un, .un, .un, .un]) ?s2 ?_
  case' s2 =>
    refine' setF hX hT 5 (by rfl) ?q1 ev_dct (by rfl)
    case' q1 => decide +kernel
  refine' sm_cons ?s3 ?_
  case' s3 =>
    refine' forL hX 6 (spanParts p n) PyData.int (fun i => [.dat (.int p), .dat (.int n), .dat (tIt its), .dat (tI s), .dat (.int (prodUpTo (spanParts p n) i)), .own (.dct ((keysUpTo (spanParts p n) i).map ent)), .un, .un, .un, .un, .un, .un]) ?i3 ?r3 ?g3 ?l3 (fun _ => rfl) (fun i hi => ?b3)
    case' i3 =>
      refine' ei_dat (ev_frz ?a3) SeqD.lst
      case' a3 => wtm_at "ev"
    case' r3 => rfl
    case' g3 => wtm_at "tgt"
    case' l3 =>
      refine' LeA.cons LeC.refl (LeA.cons LeC.refl (LeA.cons LeC.refl (LeA.cons LeC.refl (LeA.cons LeC.refl (LeA.cons LeC.refl ?l30)))))
      case' l30 => wtm_at "le"
    obtain ⟨m1, m9⟩ := po _ (List.getElem_mem hi)
    have kl := keys_len po i (by omega)
    have il : i < 5 := by
      have : (spanParts p n).length ≤ 5 := by
        unfold spanParts
        split <;> split <;> split <;> simp
      omega
    have e1 := prod_succ hi
    have e2 := keys_succ hi
    generalize hpt : (spanParts p n)[i] = pt at *
    have hc : CMul (prodUpTo (spanParts p n) i) pt := .inr (by omega)
    refine' sm_cons ?s4 ?_
    case' s4 => wtm_at "st"
    refine' sm_le (sm_one ?s5) ?l5
    case' s5 =>
      refine' forL hX 7 (primesOf pt) PyData.int (fun j => [.dat (.int p), .dat (.int n), .dat (tIt its), .dat (tI s), .dat (.int (prodUpTo (spanParts p n) i * pt)), .own (.dct ((addPs (keysUpTo (spanParts p n) i) ((primesOf pt).take j)).map ent)), .un, .un, .un, .un, .un, .un]) ?i6 ?r6 ?g6 ?l6 (fun _ => rfl) (fun j hj => ?b6)
      case' i6 =>
        refine' ei_dat (ev_frz ?a6) SeqD.lst
        case' a6 => wtm_at "ev"
      case' r6 => rfl
      case' g6 => wtm_at "tgt"
      case' l6 =>
        refine' LeA.cons LeC.refl (LeA.cons LeC.refl (LeA.cons LeC.refl (LeA.cons LeC.refl (LeA.cons LeC.refl (LeA.cons LeC.refl ?l60)))))
        case' l60 => wtm_at "le"
      have zl := add_len ((primesOf pt).take j) (keysUpTo (spanParts p n) i)
      have zl2 := primesOf_len m1 m9
      have zl3 : ((primesOf pt).take j).length ≤ (primesOf pt).length := by rw [List.length_take]; omega
      have ex := add_take (ks := keysUpTo (spanParts p n) i) hj
      refine' sm_le (sm_one ?s7) ?l7
      case' s7 =>
        refine' dputF hX 5 (by rfl) rfl ?v1 ?v2 ?v3 ?v4 ?v5 ?v6
        case' v1 => decide +kernel
        case' v2 => wtm_at "ev"
        case' v3 => wtm_at "ev"
        case' v5 => decide +kernel
        case' v6 => decide +kernel
        case v4 => rw [List.length_map, sizeLine_eq]; omega
      case' l7 =>
        rw [ex, ← put_ent]
        refine' LeA.cons LeC.refl (LeA.cons LeC.refl (LeA.cons LeC.refl (LeA.cons LeC.refl (LeA.cons LeC.refl (LeA.cons LeC.refl ?l70)))))
        case' l70 => wtm_at "le"
    case' l5 =>
      rw [e1, e2, List.take_length]
      refine' LeA.cons LeC.refl (LeA.cons LeC.refl (LeA.cons LeC.refl (LeA.cons LeC.refl (LeA.cons LeC.refl (LeA.cons LeC.refl ?l50)))))
      case' l50 => wtm_at "le"
  have ek : keysUpTo (spanParts p n) (spanParts p n).length = keysAll p n := rfl
  have es : prodUpTo (spanParts p n) (spanParts p n).length = spanI p n := rfl
  rw [ek, es]
  have hkl := keys_few hp hn2
  obtain ⟨k1, k2, k3⟩ := keys_ok hp hn2
  have s0 : 0 ≤ spanI p n := by omega
  refine' sm_cons ?s8 ?_
  case' s8 => wtm_at "st"
  obtain ⟨t1, t2, t3⟩ := tail_ok hp ti hs hn hn2
  obtain ⟨f1, f2, f3, f4, f5, f6, f7⟩ := ring_facts hp hn hn2 ti hs
  have erp : rPrimes p n (tabs p n its) s = (keysS p n).filter fun q => decide (rLen p n (tabs p n its) s % q = 0) := rfl
  have erl : rLen p n (tabs p n its) s = redTo (perB p (tabs p n its) (rBase p n (tabs p n its) s)) (spanI p n) (keysS p n) (keysS p n).length := rfl
  have eks : (keysAll p n).mergeSort (fun a b => decide (a ≤ b)) = keysS p n := rfl
  have hks : ((keysAll p n).map ent).map (fun e => e.1) = (keysAll p n).map Sum.inl := by rw [List.map_map]; rfl
  have lks : (keysS p n).length = (keysAll p n).length := List.length_mergeSort ..
  have hqb : ∀ q ∈ keysS p n, q ≤ 1000000000 := fun q hq => by
    have := (List.mergeSort_perm (keysAll p n) _).mem_iff.mp hq
    obtain ⟨j, h1, h2, h3⟩ := (keys_mem _ (Nat.le_refl _)).mp this
    obtain ⟨a, b⟩ := po _ (List.getElem_mem h1)
    have := Int.le_of_dvd (by omega) (chain_mem (primesOf_chain a b) a h3).2
    omega
  generalize hTT : tabs p n its = T at *
  have lm : (spanI p n).toNat ≤ (spanI p n).toNat := Nat.le_refl _
  refine' sm_cons (A1 := [.dat (.int p), .dat (.int n), .un, .dat (tI s), .dat (.int (spanI p n)), .own (.dct ((keysAll p n).map ent)), .un, .un, .dat (tT T), .dat (.list ((ladderT p T (spanI p n).toNat).map tT)), .un, .un]) ?s9 ?_
  case' s9 =>
    refine' s1_le (setF hX hT 9 (by rfl) ?q9 (ev_frz ?e9) (by rfl)) ?l9
    case' q9 => decide +kernel
    case' e9 => wtm_at "ev"
    case' l9 =>
      refine' LeA.cons LeC.refl (LeA.cons LeC.refl (LeA.cons LeC.un (LeA.cons LeC.refl (LeA.cons LeC.refl (LeA.cons LeC.refl ?l90)))))
      case' l90 => wtm_at "le"
  refine' sm_cons ?s10 ?_
  case' s10 => wtm_at "st"
  have ho : ∀ i, RowOn p n (orbV p T s i) := fun i => orb_on hp ti hs i
  refine' sm_cons ?s11 ?_
  case' s11 =>
    refine' whileV hX (fun i => [.dat (.int p), .dat (.int n), .un, .dat (tI (orbV p T s i)), .dat (.int (spanI p n)), .own (.dct ((keysAll p n).map ent)), .un, .un, .dat (tT T), .dat (.list ((ladderT p T (spanI p n).toNat).map tT)), .dat (.int i), .un]) (tailN p T s (spanI p n).toNat) (tailGo p T s (spanI p n).toNat) ?l11 (fun i hi => ?t11) t2 t3 fun i hi => ?b11
    case' l11 =>
      refine' LeA.cons LeC.refl (LeA.cons LeC.refl (LeA.cons LeC.refl (LeA.cons LeC.refl (LeA.cons LeC.refl (LeA.cons LeC.refl ?l110)))))
      case' l110 => wtm_at "le"
    case' t11 =>
      have hoi := ho i
      refine' et_eq ?t12 ?t13
      case' t12 => wtm_at "test"
      case t13 => rfl
    have hoi := (ho i).1
    refine' sm_cons ?s13 ?_
    case' s13 => wtm_at "st"
    refine' sm_le (sm_one ?s14) ?l14
    case' s14 => wtm_at "st"
    case' l14 =>
      refine' LeA.cons LeC.refl (LeA.cons LeC.refl (LeA.cons LeC.refl (LeA.cons LeC.refl (LeA.cons LeC.refl (LeA.cons LeC.refl ?l140)))))
      case' l140 => wtm_at "le"
  have eb : orbV p T s (tailN p T s (spanI p n).toNat) = rBase p n T s := rfl
  have et : tailN p T s (spanI p n).toNat = rTail p n T s := rfl
  rw [eb, et]
  have hb : RowOn p n (rBase p n T s) := ho _
  refine' sm_cons ?s15 ?_
  case' s15 => wtm_at "st"
  have pb : perB p T (rBase p n T s) (spanI p n) = true := by
    rw [perB_iff]
    unfold tailGo at t3
    have := of_decide_eq_true (Bool.not_eq_false' .. ▸ t3 : decide _ = true)
    exact this
  refine' sm_cons ?s16 ?_
  case' s16 =>
    refine' forL hX 7 (keysS p n) PyData.int (fun i => [.dat (.int p), .dat (.int n), .un, .dat (tI (rBase p n T s)), .dat (.int (spanI p n)), .own (.dct ((keysAll p n).map ent)), .un, .un, .dat (tT T), .dat (.list ((ladderT p T (spanI p n).toNat).map tT)), .dat (.int (rTail p n T s)), .dat (.int (redTo (perB p T (rBase p n T s)) (spanI p n) (keysS p n) i))]) ?i16 ?r16 ?g16 ?l16 (fun _ => rfl) (fun i hi => ?b16)
    case' i16 =>
      refine' ei_dat (ev_frz ?a16) SeqD.lst
      case' a16 =>
        refine' sortedDF hX 5 ?g17 mso ?g18 rfl ?g19 hks hkl ?g20 ?g21
        case' g17 => decide +kernel
        case' g18 => rfl
        case' g19 => decide +kernel
        case' g20 => decide +kernel
        case' g21 => decide +kernel
    case' r16 => rw [eks]
    case' g16 => wtm_at "tgt"
    case' l16 =>
      refine' LeA.cons LeC.refl (LeA.cons LeC.refl (LeA.cons LeC.refl (LeA.cons LeC.refl (LeA.cons LeC.refl (LeA.cons LeC.refl ?l160)))))
      case' l160 => wtm_at "le"
    obtain ⟨a1, a2, a3, a4, _⟩ := redTo_ok perB_mono sl pb (fun q hq => (k2 q hq).1) i (by omega)
    have er := redTo_succ (g := perB p T (rBase p n T s)) (r := spanI p n) hi
    have q2 := (k2 _ (List.getElem_mem hi)).1
    have q9 := hqb _ (List.getElem_mem hi)
    generalize (keysS p n)[i] = q at *
    generalize hr0 : redTo (perB p T (rBase p n T s)) (spanI p n) (keysS p n) i = r0 at *
    obtain ⟨k, b1, b2, b3, b4, b5, b6⟩ := redI_ok q2 a1 a4
    have q0 : 0 < q := by omega
    have q8 : q < 1073741824 := by omega
    refine' sm_le (sm_one ?s22) ?l22
    case' s22 =>
      refine' whileV hX (fun j => [.dat (.int p), .dat (.int n), .un, .dat (tI (rBase p n T s)), .dat (.int (spanI p n)), .own (.dct ((keysAll p n).map ent)), .un, .dat (.int q), .dat (tT T), .dat (.list ((ladderT p T (spanI p n).toNat).map tT)), .dat (.int (rTail p n T s)), .dat (.int (divs r0 q j))]) k (fun j => decide (divs r0 q j % q = 0) && perB p T (rBase p n T s) (divs r0 q j / q)) ?l23 (fun j hj => ?t23) (fun j hj => ?v23) ?w23 fun j hj => ?b23
      case' l23 =>
        refine' LeA.cons LeC.refl (LeA.cons LeC.refl (LeA.cons LeC.refl (LeA.cons LeC.refl (LeA.cons LeC.refl (LeA.cons LeC.refl ?l230)))))
        case' l230 => wtm_at "le"
      case' t23 =>
        have d1 := b4 j hj
        have d2 := Int.ediv_le_self q (show 0 ≤ divs r0 q j by omega)
        have d0 : 0 ≤ divs r0 q j / q := Int.ediv_nonneg (by omega) (by omega)
        have dm : (divs r0 q j / q).toNat ≤ (spanI p n).toNat := by omega
        refine' et_eq ?t24 ?t25
        case' t24 => wtm_at "test"
        case t25 => rfl
      case v23 =>
        obtain ⟨c1, c2⟩ := b1 j hj
        rw [decide_eq_true c1, c2]; rfl
      case w23 =>
        rw [Bool.and_eq_false_iff]
        by_cases c1 : divs r0 q k % q = 0
        · refine .inr ?_
          cases e : perB p T (rBase p n T s) (divs r0 q k / q) with
          | true => exact absurd ⟨c1, e⟩ b2
          | false => rfl
        · exact .inl (decide_eq_false c1)
      case' b23 =>
        refine' sm_le (sm_one ?s26) ?l26
        case' s26 => wtm_at "st"
        case' l26 =>
          refine' LeA.cons LeC.refl (LeA.cons LeC.refl (LeA.cons LeC.refl (LeA.cons LeC.refl (LeA.cons LeC.refl (LeA.cons LeC.refl ?l260)))))
          case' l260 => wtm_at "le"
    case' l22 =>
      rw [er, b3]
      refine' LeA.cons LeC.refl (LeA.cons LeC.refl (LeA.cons LeC.refl (LeA.cons LeC.refl (LeA.cons LeC.refl (LeA.cons LeC.refl ?l220)))))
      case' l220 => wtm_at "le"
  rw [← erl]
  rcases hcc with rfl | rfl
  · refine' sm_end ?s30
    case' s30 =>
      refine' s1_ret (ev_soft (ds := [.int (rTail p n T s), .int (rLen p n T s)]) (es := (rPrimes p n T s).map .int) ?e30)
      case' e30 =>
        refine' ev_tupO3 ?a31 ?a32 ?a33
        case' a31 => wtm_at "ev"
        case' a32 => wtm_at "ev"
        case' a33 =>
          rw [erp]
          refine' lcIf hX 7 (keysS p n) PyData.int (fun q => decide (rLen p n T s % q = 0)) PyData.int ?i34 ?r34 ?ok34 ?n34 ?x34 ?z34 ?j34 fun Y hY z hz => ?e34
          case' i34 =>
            refine' ei_dat (ev_frz ?a35) SeqD.lst
            case' a35 =>
              refine' sortedDF hX 5 ?h17 mso ?h18 rfl ?h19 hks hkl ?h20 ?h21
              case' h17 => decide +kernel
              case' h18 => rfl
              case' h19 => decide +kernel
              case' h20 => decide +kernel
              case' h21 => decide +kernel
          case' r34 => rw [eks]
          case' ok34 => decide +kernel
          case' n34 => rfl
          case' x34 => decide +kernel
          case' z34 => (rw [lks, sizeLine_eq]; omega)
          case' j34 => rfl
          case' e34 =>
            have z2 := (k2 z hz).1
            have z0 : 0 < z := by omega
            refine' ⟨?t36, fun _ => ?e36⟩
            case' t36 => wtm_at "test"
            case' e36 => wtm_at "ev"
  · refine' sm_end ?os30
    case' os30 =>
      refine' s1_ret ?oe30
      case' oe30 =>
        refine' ev_tupO3 ?oa31 ?oa32 ?oa33
        case' oa31 => wtm_at "ev"
        case' oa32 => wtm_at "ev"
        case' oa33 =>
          rw [erp]
          refine' lcIf hX 7 (keysS p n) PyData.int (fun q => decide (rLen p n T s % q = 0)) PyData.int ?oi34 ?or34 ?ook34 ?on34 ?ox34 ?oz34 ?oj34 fun Y hY z hz => ?oe34
          case' oi34 =>
            refine' ei_dat (ev_frz ?oa35) SeqD.lst
            case' oa35 =>
              refine' sortedDF hX 5 ?oh17 mso ?oh18 rfl ?oh19 hks hkl ?oh20 ?oh21
              case' oh17 => decide +kernel
              case' oh18 => rfl
              case' oh19 => decide +kernel
              case' oh20 => decide +kernel
              case' oh21 => decide +kernel
          case' or34 => rw [eks]
          case' ook34 => decide +kernel
          case' on34 => rfl
          case' ox34 => decide +kernel
          case' oz34 => (rw [lks, sizeLine_eq]; omega)
          case' oj34 => rfl
          case' oe34 =>
            have z2 := (k2 z hz).1
            have z0 : 0 < z := by omega
            refine' ⟨?ot36, fun _ => ?oe36⟩
            case' ot36 => wtm_at "test"
            case' oe36 => wtm_at "ev"
end
end W

namespace W
open PySem PySem.Spec PyProof.Rows L2 LR
section
variable {P : Program} {w : World} {K : PySem.W.Frag} {mg : Str → Option Value} {base : Heap}
inductive rLGo : List PyData → Res → Prop
  | mk {p : Int} {n : Nat} {t : List (List Int)} {s : List Int} {m : Int} (ht : Tbl p n t) (hs : RowOn p n s) (hp : Prm p) (hn : 1 ≤ n) (hn2 : n ≤ 3) (m0 : 0 ≤ m) (m1 : m ≤ 1000000000000000000000000000000) : rLGo [.int p, tT t, .int m, tI s] (.ok (.dat (tI (orbV p t s m.toNat))))
local macro_rules | `(tactic| wtm_at "R") => `(tactic| first
  | ((with_reducible apply rRoundsT) <;> first | (with_reducible assumption) | omega)
  | ((with_reducible apply rLTurnedT) <;> first | (with_reducible assumption) | omega)
  | (constructor; all_goals try (wtm_at "sd")))
end
end W

namespace W
open PySem PySem.Spec PyProof.Rows L2 LR
theorem rPrimes_small {p : Int} {n : Nat} {t : List (List Int)} {s : List Int} (hp : Prm p) (hn2 : n ≤ 3) : (rPrimes p n t s).length < 64 ∧ ∀ q ∈ rPrimes p n t s, q ≤ 1000000000 ∧ PrimeI q := by
  obtain ⟨k1, k2, k3⟩ := keys_ok hp hn2
  have po := parts_ok hp hn2
  refine ⟨?_, fun q hq => ?_⟩
  · have a : (rPrimes p n t s).length ≤ (keysS p n).length := List.length_filter_le _ _
    have b : (keysS p n).length = (keysAll p n).length := List.length_mergeSort ..
    have c := keys_few hp hn2
    omega
  · have hk := (List.mem_filter.mp hq).1
    refine ⟨?_, k2 q hk⟩
    have := (List.mergeSort_perm (keysAll p n) _).mem_iff.mp hk
    obtain ⟨j, h1, h2, h3⟩ := (keys_mem _ (Nat.le_refl _)).mp this
    obtain ⟨a, b⟩ := po _ (List.getElem_mem h1)
    have := Int.le_of_dvd (by omega) (chain_mem (primesOf_chain a b) a h3).2
    omega
theorem noLs_ints : ∀ xs : List Int, noLs (xs.map PyData.int) = true
  | [] => by simp [noLs]
  | x :: r => by rw [List.map_cons]; simp only [noLs, noL, noLs_ints r, Bool.and_true]
mutual
theorem noL_enc : ∀ i : Item, noL i.enc = true
  | .set x f => by
    rw [enc_set]
    simp only [noL, noLs, noLs_ints, Bool.and_true, Bool.true_and]
  | .again n its => by
    rw [enc_again]
    simp only [noL, noLs, noL_encs its, Bool.and_true, Bool.true_and]
theorem noL_encs : ∀ its : List Item, noLs (its.map Item.enc) = true
  | [] => by simp [noLs]
  | i :: r => by rw [List.map_cons]; simp only [noLs, noL_enc i, noL_encs r, Bool.and_true]
end
theorem noLs_tT : ∀ t : List (List Int), noLs (t.map tI) = true
  | [] => by simp [noLs]
  | x :: r => by rw [List.map_cons]; simp only [noLs, noL, noLs_ints, noLs_tT r, Bool.and_true]
def lastQ (l : List Int) (i : Nat) : Int := if i = 0 then 1 else l.getD (i - 1) 0
def restQ (r : Int) (l : List Int) (i : Nat) : Int := (l.take i).foldl (fun m q => stripI q m) r
theorem restQ_succ {r : Int} {l : List Int} {i : Nat} (h : i < l.length) : restQ r l (i + 1) = stripI l[i] (restQ r l i) := by
  unfold restQ
  rw [List.take_add_one, List.getElem?_eq_getElem h, Option.toList_some, List.foldl_append]
  rfl
section
variable {P : Program} {w : World} {K : PySem.W.Frag} {mg : Str → Option Value} {base : Heap}
inductive rLaw : List PyData → Res → Prop
  | mk {s : List Int} (h : s.length ≤ 63) : rLaw [.list (s.map .int)] (.ok (.dat (.bool true)))
local macro_rules | `(tactic| wtm_at "R") => `(tactic| first
  | ((with_reducible apply rCell.mk) <;> first | (with_reducible assumption) | omega)
  | ((with_reducible apply rPrime.mk) <;> first | (with_reducible assumption) | omega)
  | ((with_reducible apply rDigits.mk) <;> first | (with_reducible assumption) | omega)
  | ((with_reducible apply rWhole.mk) <;> first | (with_reducible assumption) | omega)
  | ((with_reducible apply rRoundsT) <;> first | (with_reducible assumption) | omega)
  | ((with_reducible apply rLTurnedT) <;> first | (with_reducible assumption) | omega)
  | ((with_reducible apply rIsPrime.mk) <;> first | (with_reducible assumption) | omega)
  | (constructor; all_goals try (wtm_at "sd")))
local macro_rules | `(tactic| wtm_at "nm") => `(tactic| first
  | ((with_reducible show Ev _ _ (.Name "script" _) _); exact nmF (by assumption) 0 (by rfl) rfl (by decide +kernel) (by decide +kernel) (by decide +kernel))
  | ((with_reducible show Ev _ _ (.Name "P" _) _); exact nmF (by assumption) 1 (by rfl) rfl (by decide +kernel) (by decide +kernel) (by decide +kernel))
  | ((with_reducible show Ev _ _ (.Name "many" _) _); exact nmF (by assumption) 2 (by rfl) rfl (by decide +kernel) (by decide +kernel) (by decide +kernel))
  | ((with_reducible show Ev _ _ (.Name "stand" _) _); exact nmF (by assumption) 3 (by rfl) rfl (by decide +kernel) (by decide +kernel) (by decide +kernel))
  | ((with_reducible show Ev _ _ (.Name "items" _) _); exact nmF (by assumption) 4 (by rfl) rfl (by decide +kernel) (by decide +kernel) (by decide +kernel))
  | ((with_reducible show Ev _ _ (.Name "t" _) _); exact nmF (by assumption) 5 (by rfl) rfl (by decide +kernel) (by decide +kernel) (by decide +kernel))
  | ((with_reducible show Ev _ _ (.Name "r" _) _); exact nmF (by assumption) 6 (by rfl) rfl (by decide +kernel) (by decide +kernel) (by decide +kernel))
  | ((with_reducible show Ev _ _ (.Name "told" _) _); exact nmF (by assumption) 7 (by rfl) rfl (by decide +kernel) (by decide +kernel) (by decide +kernel))
  | ((with_reducible show Ev _ _ (.Name "table" _) _); exact nmF (by assumption) 8 (by rfl) rfl (by decide +kernel) (by decide +kernel) (by decide +kernel))
  | ((with_reducible show Ev _ _ (.Name "first" _) _); exact nmF (by assumption) 9 (by rfl) rfl (by decide +kernel) (by decide +kernel) (by decide +kernel))
  | ((with_reducible show Ev _ _ (.Name "left" _) _); exact nmF (by assumption) 10 (by rfl) rfl (by decide +kernel) (by decide +kernel) (by decide +kernel))
  | ((with_reducible show Ev _ _ (.Name "last" _) _); exact nmF (by assumption) 11 (by rfl) rfl (by decide +kernel) (by decide +kernel) (by decide +kernel))
  | ((with_reducible show Ev _ _ (.Name "q" _) _); exact nmF (by assumption) 12 (by rfl) rfl (by decide +kernel) (by decide +kernel) (by decide +kernel))
  | ((with_reducible show Ev _ _ (.Name "same" _) _); exact nmF (by assumption) 13 (by rfl) rfl (by decide +kernel) (by decide +kernel) (by decide +kernel)))
local macro_rules | `(tactic| wtm_at "own") => `(tactic| first
  | ((with_reducible show EvS _ _ (.Name "script" _) _ _); exact ownF (by assumption) 0 (by rfl) rfl (by decide +kernel) (by decide +kernel) (by decide +kernel))
  | ((with_reducible show EvS _ _ (.Name "P" _) _ _); exact ownF (by assumption) 1 (by rfl) rfl (by decide +kernel) (by decide +kernel) (by decide +kernel))
  | ((with_reducible show EvS _ _ (.Name "many" _) _ _); exact ownF (by assumption) 2 (by rfl) rfl (by decide +kernel) (by decide +kernel) (by decide +kernel))
  | ((with_reducible show EvS _ _ (.Name "stand" _) _ _); exact ownF (by assumption) 3 (by rfl) rfl (by decide +kernel) (by decide +kernel) (by decide +kernel))
  | ((with_reducible show EvS _ _ (.Name "items" _) _ _); exact ownF (by assumption) 4 (by rfl) rfl (by decide +kernel) (by decide +kernel) (by decide +kernel))
  | ((with_reducible show EvS _ _ (.Name "t" _) _ _); exact ownF (by assumption) 5 (by rfl) rfl (by decide +kernel) (by decide +kernel) (by decide +kernel))
  | ((with_reducible show EvS _ _ (.Name "r" _) _ _); exact ownF (by assumption) 6 (by rfl) rfl (by decide +kernel) (by decide +kernel) (by decide +kernel))
  | ((with_reducible show EvS _ _ (.Name "told" _) _ _); exact ownF (by assumption) 7 (by rfl) rfl (by decide +kernel) (by decide +kernel) (by decide +kernel))
  | ((with_reducible show EvS _ _ (.Name "table" _) _ _); exact ownF (by assumption) 8 (by rfl) rfl (by decide +kernel) (by decide +kernel) (by decide +kernel))
  | ((with_reducible show EvS _ _ (.Name "first" _) _ _); exact ownF (by assumption) 9 (by rfl) rfl (by decide +kernel) (by decide +kernel) (by decide +kernel))
  | ((with_reducible show EvS _ _ (.Name "left" _) _ _); exact ownF (by assumption) 10 (by rfl) rfl (by decide +kernel) (by decide +kernel) (by decide +kernel))
  | ((with_reducible show EvS _ _ (.Name "last" _) _ _); exact ownF (by assumption) 11 (by rfl) rfl (by decide +kernel) (by decide +kernel) (by decide +kernel))
  | ((with_reducible show EvS _ _ (.Name "q" _) _ _); exact ownF (by assumption) 12 (by rfl) rfl (by decide +kernel) (by decide +kernel) (by decide +kernel))
  | ((with_reducible show EvS _ _ (.Name "same" _) _ _); exact ownF (by assumption) 13 (by rfl) rfl (by decide +kernel) (by decide +kernel) (by decide +kernel)))
local macro_rules | `(tactic| wtm_at "ownl") => `(tactic| first
  | ((with_reducible show EvL _ _ (.Name "script" _) _); exact ownlF (by assumption) 0 (by rfl) rfl (by decide +kernel) (by decide +kernel) (by decide +kernel))
  | ((with_reducible show EvL _ _ (.Name "P" _) _); exact ownlF (by assumption) 1 (by rfl) rfl (by decide +kernel) (by decide +kernel) (by decide +kernel))
  | ((with_reducible show EvL _ _ (.Name "many" _) _); exact ownlF (by assumption) 2 (by rfl) rfl (by decide +kernel) (by decide +kernel) (by decide +kernel))
  | ((with_reducible show EvL _ _ (.Name "stand" _) _); exact ownlF (by assumption) 3 (by rfl) rfl (by decide +kernel) (by decide +kernel) (by decide +kernel))
  | ((with_reducible show EvL _ _ (.Name "items" _) _); exact ownlF (by assumption) 4 (by rfl) rfl (by decide +kernel) (by decide +kernel) (by decide +kernel))
  | ((with_reducible show EvL _ _ (.Name "t" _) _); exact ownlF (by assumption) 5 (by rfl) rfl (by decide +kernel) (by decide +kernel) (by decide +kernel))
  | ((with_reducible show EvL _ _ (.Name "r" _) _); exact ownlF (by assumption) 6 (by rfl) rfl (by decide +kernel) (by decide +kernel) (by decide +kernel))
  | ((with_reducible show EvL _ _ (.Name "told" _) _); exact ownlF (by assumption) 7 (by rfl) rfl (by decide +kernel) (by decide +kernel) (by decide +kernel))
  | ((with_reducible show EvL _ _ (.Name "table" _) _); exact ownlF (by assumption) 8 (by rfl) rfl (by decide +kernel) (by decide +kernel) (by decide +kernel))
  | ((with_reducible show EvL _ _ (.Name "first" _) _); exact ownlF (by assumption) 9 (by rfl) rfl (by decide +kernel) (by decide +kernel) (by decide +kernel))
  | ((with_reducible show EvL _ _ (.Name "left" _) _); exact ownlF (by assumption) 10 (by rfl) rfl (by decide +kernel) (by decide +kernel) (by decide +kernel))
  | ((with_reducible show EvL _ _ (.Name "last" _) _); exact ownlF (by assumption) 11 (by rfl) rfl (by decide +kernel) (by decide +kernel) (by decide +kernel))
  | ((with_reducible show EvL _ _ (.Name "q" _) _); exact ownlF (by assumption) 12 (by rfl) rfl (by decide +kernel) (by decide +kernel) (by decide +kernel))
  | ((with_reducible show EvL _ _ (.Name "same" _) _); exact ownlF (by assumption) 13 (by rfl) rfl (by decide +kernel) (by decide +kernel) (by decide +kernel)))
local macro_rules | `(tactic| wtm_at "set") => `(tactic| first
  | ((with_reducible show S1 _ _ (.Assign [.Name "script" _] _ _) _); refine' setF ?st1 ?st2 0 ?st3 ?st4 ?ste ?st5; (case' st1 => assumption); (case' st2 => assumption); (case' st3 => rfl); (case' st4 => decide +kernel); (case' ste => wtm_at "ev"); (case' st5 => rfl))
  | ((with_reducible show S1 _ _ (.Assign [.Name "P" _] _ _) _); refine' setF ?st1 ?st2 1 ?st3 ?st4 ?ste ?st5; (case' st1 => assumption); (case' st2 => assumption); (case' st3 => rfl); (case' st4 => decide +kernel); (case' ste => wtm_at "ev"); (case' st5 => rfl))
  | ((with_reducible show S1 _ _ (.Assign [.Name "many" _] _ _) _); refine' setF ?st1 ?st2 2 ?st3 ?st4 ?ste ?st5; (case' st1 => assumption); (case' st2 => assumption); (case' st3 => rfl); (case' st4 => decide +kernel); (case' ste => wtm_at "ev"); (case' st5 => rfl))
  | ((with_reducible show S1 _ _ (.Assign [.Name "stand" _] _ _) _); refine' setF ?st1 ?st2 3 ?st3 ?st4 ?ste ?st5; (case' st1 => assumption); (case' st2 => assumption); (case' st3 => rfl); (case' st4 => decide +kernel); (case' ste => wtm_at "ev"); (case' st5 => rfl))
  | ((with_reducible show S1 _ _ (.Assign [.Name "items" _] _ _) _); refine' setF ?st1 ?st2 4 ?st3 ?st4 ?ste ?st5; (case' st1 => assumption); (case' st2 => assumption); (case' st3 => rfl); (case' st4 => decide +kernel); (case' ste => wtm_at "ev"); (case' st5 => rfl))
  | ((with_reducible show S1 _ _ (.Assign [.Name "t" _] _ _) _); refine' setF ?st1 ?st2 5 ?st3 ?st4 ?ste ?st5; (case' st1 => assumption); (case' st2 => assumption); (case' st3 => rfl); (case' st4 => decide +kernel); (case' ste => wtm_at "ev"); (case' st5 => rfl))
  | ((with_reducible show S1 _ _ (.Assign [.Name "r" _] _ _) _); refine' setF ?st1 ?st2 6 ?st3 ?st4 ?ste ?st5; (case' st1 => assumption); (case' st2 => assumption); (case' st3 => rfl); (case' st4 => decide +kernel); (case' ste => wtm_at "ev"); (case' st5 => rfl))
  | ((with_reducible show S1 _ _ (.Assign [.Name "told" _] _ _) _); refine' setF ?st1 ?st2 7 ?st3 ?st4 ?ste ?st5; (case' st1 => assumption); (case' st2 => assumption); (case' st3 => rfl); (case' st4 => decide +kernel); (case' ste => wtm_at "ev"); (case' st5 => rfl))
  | ((with_reducible show S1 _ _ (.Assign [.Name "table" _] _ _) _); refine' setF ?st1 ?st2 8 ?st3 ?st4 ?ste ?st5; (case' st1 => assumption); (case' st2 => assumption); (case' st3 => rfl); (case' st4 => decide +kernel); (case' ste => wtm_at "ev"); (case' st5 => rfl))
  | ((with_reducible show S1 _ _ (.Assign [.Name "first" _] _ _) _); refine' setF ?st1 ?st2 9 ?st3 ?st4 ?ste ?st5; (case' st1 => assumption); (case' st2 => assumption); (case' st3 => rfl); (case' st4 => decide +kernel); (case' ste => wtm_at "ev"); (case' st5 => rfl))
  | ((with_reducible show S1 _ _ (.Assign [.Name "left" _] _ _) _); refine' setF ?st1 ?st2 10 ?st3 ?st4 ?ste ?st5; (case' st1 => assumption); (case' st2 => assumption); (case' st3 => rfl); (case' st4 => decide +kernel); (case' ste => wtm_at "ev"); (case' st5 => rfl))
  | ((with_reducible show S1 _ _ (.Assign [.Name "last" _] _ _) _); refine' setF ?st1 ?st2 11 ?st3 ?st4 ?ste ?st5; (case' st1 => assumption); (case' st2 => assumption); (case' st3 => rfl); (case' st4 => decide +kernel); (case' ste => wtm_at "ev"); (case' st5 => rfl))
  | ((with_reducible show S1 _ _ (.Assign [.Name "q" _] _ _) _); refine' setF ?st1 ?st2 12 ?st3 ?st4 ?ste ?st5; (case' st1 => assumption); (case' st2 => assumption); (case' st3 => rfl); (case' st4 => decide +kernel); (case' ste => wtm_at "ev"); (case' st5 => rfl))
  | ((with_reducible show S1 _ _ (.Assign [.Name "same" _] _ _) _); refine' setF ?st1 ?st2 13 ?st3 ?st4 ?ste ?st5; (case' st1 => assumption); (case' st2 => assumption); (case' st3 => rfl); (case' st4 => decide +kernel); (case' ste => wtm_at "ev"); (case' st5 => rfl)))
local macro_rules | `(tactic| wtm_at "app") => `(tactic| first
  | ((with_reducible show S1 _ _ (.Expr (.Call (.Attribute (.Name "script" _) _ _) _ _ _) _) _); refine' appF ?ap1 0 ?ap2 ?ap3 ?ap4 ?ape ?aps ?ap5 ?ap6; (case' ap1 => assumption); (case' ap2 => rfl); (case' ap3 => rfl); (case' ap4 => decide +kernel); (case' ape => wtm_at "ev"); (case' aps => try (wtm_at "sz")); (case' ap5 => decide +kernel); (case' ap6 => decide +kernel))
  | ((with_reducible show S1 _ _ (.Expr (.Call (.Attribute (.Name "P" _) _ _) _ _ _) _) _); refine' appF ?ap1 1 ?ap2 ?ap3 ?ap4 ?ape ?aps ?ap5 ?ap6; (case' ap1 => assumption); (case' ap2 => rfl); (case' ap3 => rfl); (case' ap4 => decide +kernel); (case' ape => wtm_at "ev"); (case' aps => try (wtm_at "sz")); (case' ap5 => decide +kernel); (case' ap6 => decide +kernel))
  | ((with_reducible show S1 _ _ (.Expr (.Call (.Attribute (.Name "many" _) _ _) _ _ _) _) _); refine' appF ?ap1 2 ?ap2 ?ap3 ?ap4 ?ape ?aps ?ap5 ?ap6; (case' ap1 => assumption); (case' ap2 => rfl); (case' ap3 => rfl); (case' ap4 => decide +kernel); (case' ape => wtm_at "ev"); (case' aps => try (wtm_at "sz")); (case' ap5 => decide +kernel); (case' ap6 => decide +kernel))
  | ((with_reducible show S1 _ _ (.Expr (.Call (.Attribute (.Name "stand" _) _ _) _ _ _) _) _); refine' appF ?ap1 3 ?ap2 ?ap3 ?ap4 ?ape ?aps ?ap5 ?ap6; (case' ap1 => assumption); (case' ap2 => rfl); (case' ap3 => rfl); (case' ap4 => decide +kernel); (case' ape => wtm_at "ev"); (case' aps => try (wtm_at "sz")); (case' ap5 => decide +kernel); (case' ap6 => decide +kernel))
  | ((with_reducible show S1 _ _ (.Expr (.Call (.Attribute (.Name "items" _) _ _) _ _ _) _) _); refine' appF ?ap1 4 ?ap2 ?ap3 ?ap4 ?ape ?aps ?ap5 ?ap6; (case' ap1 => assumption); (case' ap2 => rfl); (case' ap3 => rfl); (case' ap4 => decide +kernel); (case' ape => wtm_at "ev"); (case' aps => try (wtm_at "sz")); (case' ap5 => decide +kernel); (case' ap6 => decide +kernel))
  | ((with_reducible show S1 _ _ (.Expr (.Call (.Attribute (.Name "t" _) _ _) _ _ _) _) _); refine' appF ?ap1 5 ?ap2 ?ap3 ?ap4 ?ape ?aps ?ap5 ?ap6; (case' ap1 => assumption); (case' ap2 => rfl); (case' ap3 => rfl); (case' ap4 => decide +kernel); (case' ape => wtm_at "ev"); (case' aps => try (wtm_at "sz")); (case' ap5 => decide +kernel); (case' ap6 => decide +kernel))
  | ((with_reducible show S1 _ _ (.Expr (.Call (.Attribute (.Name "r" _) _ _) _ _ _) _) _); refine' appF ?ap1 6 ?ap2 ?ap3 ?ap4 ?ape ?aps ?ap5 ?ap6; (case' ap1 => assumption); (case' ap2 => rfl); (case' ap3 => rfl); (case' ap4 => decide +kernel); (case' ape => wtm_at "ev"); (case' aps => try (wtm_at "sz")); (case' ap5 => decide +kernel); (case' ap6 => decide +kernel))
  | ((with_reducible show S1 _ _ (.Expr (.Call (.Attribute (.Name "told" _) _ _) _ _ _) _) _); refine' appF ?ap1 7 ?ap2 ?ap3 ?ap4 ?ape ?aps ?ap5 ?ap6; (case' ap1 => assumption); (case' ap2 => rfl); (case' ap3 => rfl); (case' ap4 => decide +kernel); (case' ape => wtm_at "ev"); (case' aps => try (wtm_at "sz")); (case' ap5 => decide +kernel); (case' ap6 => decide +kernel))
  | ((with_reducible show S1 _ _ (.Expr (.Call (.Attribute (.Name "table" _) _ _) _ _ _) _) _); refine' appF ?ap1 8 ?ap2 ?ap3 ?ap4 ?ape ?aps ?ap5 ?ap6; (case' ap1 => assumption); (case' ap2 => rfl); (case' ap3 => rfl); (case' ap4 => decide +kernel); (case' ape => wtm_at "ev"); (case' aps => try (wtm_at "sz")); (case' ap5 => decide +kernel); (case' ap6 => decide +kernel))
  | ((with_reducible show S1 _ _ (.Expr (.Call (.Attribute (.Name "first" _) _ _) _ _ _) _) _); refine' appF ?ap1 9 ?ap2 ?ap3 ?ap4 ?ape ?aps ?ap5 ?ap6; (case' ap1 => assumption); (case' ap2 => rfl); (case' ap3 => rfl); (case' ap4 => decide +kernel); (case' ape => wtm_at "ev"); (case' aps => try (wtm_at "sz")); (case' ap5 => decide +kernel); (case' ap6 => decide +kernel))
  | ((with_reducible show S1 _ _ (.Expr (.Call (.Attribute (.Name "left" _) _ _) _ _ _) _) _); refine' appF ?ap1 10 ?ap2 ?ap3 ?ap4 ?ape ?aps ?ap5 ?ap6; (case' ap1 => assumption); (case' ap2 => rfl); (case' ap3 => rfl); (case' ap4 => decide +kernel); (case' ape => wtm_at "ev"); (case' aps => try (wtm_at "sz")); (case' ap5 => decide +kernel); (case' ap6 => decide +kernel))
  | ((with_reducible show S1 _ _ (.Expr (.Call (.Attribute (.Name "last" _) _ _) _ _ _) _) _); refine' appF ?ap1 11 ?ap2 ?ap3 ?ap4 ?ape ?aps ?ap5 ?ap6; (case' ap1 => assumption); (case' ap2 => rfl); (case' ap3 => rfl); (case' ap4 => decide +kernel); (case' ape => wtm_at "ev"); (case' aps => try (wtm_at "sz")); (case' ap5 => decide +kernel); (case' ap6 => decide +kernel))
  | ((with_reducible show S1 _ _ (.Expr (.Call (.Attribute (.Name "q" _) _ _) _ _ _) _) _); refine' appF ?ap1 12 ?ap2 ?ap3 ?ap4 ?ape ?aps ?ap5 ?ap6; (case' ap1 => assumption); (case' ap2 => rfl); (case' ap3 => rfl); (case' ap4 => decide +kernel); (case' ape => wtm_at "ev"); (case' aps => try (wtm_at "sz")); (case' ap5 => decide +kernel); (case' ap6 => decide +kernel))
  | ((with_reducible show S1 _ _ (.Expr (.Call (.Attribute (.Name "same" _) _ _) _ _ _) _) _); refine' appF ?ap1 13 ?ap2 ?ap3 ?ap4 ?ape ?aps ?ap5 ?ap6; (case' ap1 => assumption); (case' ap2 => rfl); (case' ap3 => rfl); (case' ap4 => decide +kernel); (case' ape => wtm_at "ev"); (case' aps => try (wtm_at "sz")); (case' ap5 => decide +kernel); (case' ap6 => decide +kernel)))
local macro_rules | `(tactic| wtm_at "put") => `(tactic| first
  | ((with_reducible show S1 _ _ (.Assign [.Subscript (.Name "script" _) _ _] _ _) _); refine' putF ?pu1 0 ?pu2 ?pu3 ?pu4 ?pue ?pui ?pu5 ?pu6 ?pu7 ?pu8; (case' pu1 => assumption); (case' pu2 => rfl); (case' pu3 => rfl); (case' pu4 => decide +kernel); (case' pue => wtm_at "ev"); (case' pui => wtm_at "ev"); (case' pu5 => try (wtm_at "sd")); (case' pu6 => try (wtm_at "sd")); (case' pu7 => decide +kernel); (case' pu8 => decide +kernel))
  | ((with_reducible show S1 _ _ (.Assign [.Subscript (.Name "P" _) _ _] _ _) _); refine' putF ?pu1 1 ?pu2 ?pu3 ?pu4 ?pue ?pui ?pu5 ?pu6 ?pu7 ?pu8; (case' pu1 => assumption); (case' pu2 => rfl); (case' pu3 => rfl); (case' pu4 => decide +kernel); (case' pue => wtm_at "ev"); (case' pui => wtm_at "ev"); (case' pu5 => try (wtm_at "sd")); (case' pu6 => try (wtm_at "sd")); (case' pu7 => decide +kernel); (case' pu8 => decide +kernel))
  | ((with_reducible show S1 _ _ (.Assign [.Subscript (.Name "many" _) _ _] _ _) _); refine' putF ?pu1 2 ?pu2 ?pu3 ?pu4 ?pue ?pui ?pu5 ?pu6 ?pu7 ?pu8; (case' pu1 => assumption); (case' pu2 => rfl); (case' pu3 => rfl); (case' pu4 => decide +kernel); (case' pue => wtm_at "ev"); (case' pui => wtm_at "ev"); (case' pu5 => try (wtm_at "sd")); (case' pu6 => try (wtm_at "sd")); (case' pu7 => decide +kernel); (case' pu8 => decide +kernel))
  | ((with_reducible show S1 _ _ (.Assign [.Subscript (.Name "stand" _) _ _] _ _) _); refine' putF ?pu1 3 ?pu2 ?pu3 ?pu4 ?pue ?pui ?pu5 ?pu6 ?pu7 ?pu8; (case' pu1 => assumption); (case' pu2 => rfl); (case' pu3 => rfl); (case' pu4 => decide +kernel); (case' pue => wtm_at "ev"); (case' pui => wtm_at "ev"); (case' pu5 => try (wtm_at "sd")); (case' pu6 => try (wtm_at "sd")); (case' pu7 => decide +kernel); (case' pu8 => decide +kernel))
  | ((with_reducible show S1 _ _ (.Assign [.Subscript (.Name "items" _) _ _] _ _) _); refine' putF ?pu1 4 ?pu2 ?pu3 ?pu4 ?pue ?pui ?pu5 ?pu6 ?pu7 ?pu8; (case' pu1 => assumption); (case' pu2 => rfl); (case' pu3 => rfl); (case' pu4 => decide +kernel); (case' pue => wtm_at "ev"); (case' pui => wtm_at "ev"); (case' pu5 => try (wtm_at "sd")); (case' pu6 => try (wtm_at "sd")); (case' pu7 => decide +kernel); (case' pu8 => decide +kernel))
  | ((with_reducible show S1 _ _ (.Assign [.Subscript (.Name "t" _) _ _] _ _) _); refine' putF ?pu1 5 ?pu2 ?pu3 ?pu4 ?pue ?pui ?pu5 ?pu6 ?pu7 ?pu8; (case' pu1 => assumption); (case' pu2 => rfl); (case' pu3 => rfl); (case' pu4 => decide +kernel); (case' pue => wtm_at "ev"); (case' pui => wtm_at "ev"); (case' pu5 => try (wtm_at "sd")); (case' pu6 => try (wtm_at "sd")); (case' pu7 => decide +kernel); (case' pu8 => decide +kernel))
  | ((with_reducible show S1 _ _ (.Assign [.Subscript (.Name "r" _) _ _] _ _) _); refine' putF ?pu1 6 ?pu2 ?pu3 ?pu4 ?pue ?pui ?pu5 ?pu6 ?pu7 ?pu8; (case' pu1 => assumption); (case' pu2 => rfl); (case' pu3 => rfl); (case' pu4 => decide +kernel); (case' pue => wtm_at "ev"); (case' pui => wtm_at "ev"); (case' pu5 => try (wtm_at "sd")); (case' pu6 => try (wtm_at "sd")); (case' pu7 => decide +kernel); (case' pu8 => decide +kernel))
  | ((with_reducible show S1 _ _ (.Assign [.Subscript (.Name "told" _) _ _] _ _) _); refine' putF ?pu1 7 ?pu2 ?pu3 ?pu4 ?pue ?pui ?pu5 ?pu6 ?pu7 ?pu8; (case' pu1 => assumption); (case' pu2 => rfl); (case' pu3 => rfl); (case' pu4 => decide +kernel); (case' pue => wtm_at "ev"); (case' pui => wtm_at "ev"); (case' pu5 => try (wtm_at "sd")); (case' pu6 => try (wtm_at "sd")); (case' pu7 => decide +kernel); (case' pu8 => decide +kernel))
  | ((with_reducible show S1 _ _ (.Assign [.Subscript (.Name "table" _) _ _] _ _) _); refine' putF ?pu1 8 ?pu2 ?pu3 ?pu4 ?pue ?pui ?pu5 ?pu6 ?pu7 ?pu8; (case' pu1 => assumption); (case' pu2 => rfl); (case' pu3 => rfl); (case' pu4 => decide +kernel); (case' pue => wtm_at "ev"); (case' pui => wtm_at "ev"); (case' pu5 => try (wtm_at "sd")); (case' pu6 => try (wtm_at "sd")); (case' pu7 => decide +kernel); (case' pu8 => decide +kernel))
  | ((with_reducible show S1 _ _ (.Assign [.Subscript (.Name "first" _) _ _] _ _) _); refine' putF ?pu1 9 ?pu2 ?pu3 ?pu4 ?pue ?pui ?pu5 ?pu6 ?pu7 ?pu8; (case' pu1 => assumption); (case' pu2 => rfl); (case' pu3 => rfl); (case' pu4 => decide +kernel); (case' pue => wtm_at "ev"); (case' pui => wtm_at "ev"); (case' pu5 => try (wtm_at "sd")); (case' pu6 => try (wtm_at "sd")); (case' pu7 => decide +kernel); (case' pu8 => decide +kernel))
  | ((with_reducible show S1 _ _ (.Assign [.Subscript (.Name "left" _) _ _] _ _) _); refine' putF ?pu1 10 ?pu2 ?pu3 ?pu4 ?pue ?pui ?pu5 ?pu6 ?pu7 ?pu8; (case' pu1 => assumption); (case' pu2 => rfl); (case' pu3 => rfl); (case' pu4 => decide +kernel); (case' pue => wtm_at "ev"); (case' pui => wtm_at "ev"); (case' pu5 => try (wtm_at "sd")); (case' pu6 => try (wtm_at "sd")); (case' pu7 => decide +kernel); (case' pu8 => decide +kernel))
  | ((with_reducible show S1 _ _ (.Assign [.Subscript (.Name "last" _) _ _] _ _) _); refine' putF ?pu1 11 ?pu2 ?pu3 ?pu4 ?pue ?pui ?pu5 ?pu6 ?pu7 ?pu8; (case' pu1 => assumption); (case' pu2 => rfl); (case' pu3 => rfl); (case' pu4 => decide +kernel); (case' pue => wtm_at "ev"); (case' pui => wtm_at "ev"); (case' pu5 => try (wtm_at "sd")); (case' pu6 => try (wtm_at "sd")); (case' pu7 => decide +kernel); (case' pu8 => decide +kernel))
  | ((with_reducible show S1 _ _ (.Assign [.Subscript (.Name "q" _) _ _] _ _) _); refine' putF ?pu1 12 ?pu2 ?pu3 ?pu4 ?pue ?pui ?pu5 ?pu6 ?pu7 ?pu8; (case' pu1 => assumption); (case' pu2 => rfl); (case' pu3 => rfl); (case' pu4 => decide +kernel); (case' pue => wtm_at "ev"); (case' pui => wtm_at "ev"); (case' pu5 => try (wtm_at "sd")); (case' pu6 => try (wtm_at "sd")); (case' pu7 => decide +kernel); (case' pu8 => decide +kernel))
  | ((with_reducible show S1 _ _ (.Assign [.Subscript (.Name "same" _) _ _] _ _) _); refine' putF ?pu1 13 ?pu2 ?pu3 ?pu4 ?pue ?pui ?pu5 ?pu6 ?pu7 ?pu8; (case' pu1 => assumption); (case' pu2 => rfl); (case' pu3 => rfl); (case' pu4 => decide +kernel); (case' pue => wtm_at "ev"); (case' pui => wtm_at "ev"); (case' pu5 => try (wtm_at "sd")); (case' pu6 => try (wtm_at "sd")); (case' pu7 => decide +kernel); (case' pu8 => decide +kernel)))
local macro_rules | `(tactic| wtm_at "reto") => `(tactic| first
  | ((with_reducible show S1 _ _ (.Return (some (.Name "script" _)) _) _); exact retOF (by assumption) 0 (by rfl) rfl (by decide +kernel) (by decide +kernel) (by decide +kernel))
  | ((with_reducible show S1 _ _ (.Return (some (.Name "P" _)) _) _); exact retOF (by assumption) 1 (by rfl) rfl (by decide +kernel) (by decide +kernel) (by decide +kernel))
  | ((with_reducible show S1 _ _ (.Return (some (.Name "many" _)) _) _); exact retOF (by assumption) 2 (by rfl) rfl (by decide +kernel) (by decide +kernel) (by decide +kernel))
  | ((with_reducible show S1 _ _ (.Return (some (.Name "stand" _)) _) _); exact retOF (by assumption) 3 (by rfl) rfl (by decide +kernel) (by decide +kernel) (by decide +kernel))
  | ((with_reducible show S1 _ _ (.Return (some (.Name "items" _)) _) _); exact retOF (by assumption) 4 (by rfl) rfl (by decide +kernel) (by decide +kernel) (by decide +kernel))
  | ((with_reducible show S1 _ _ (.Return (some (.Name "t" _)) _) _); exact retOF (by assumption) 5 (by rfl) rfl (by decide +kernel) (by decide +kernel) (by decide +kernel))
  | ((with_reducible show S1 _ _ (.Return (some (.Name "r" _)) _) _); exact retOF (by assumption) 6 (by rfl) rfl (by decide +kernel) (by decide +kernel) (by decide +kernel))
  | ((with_reducible show S1 _ _ (.Return (some (.Name "told" _)) _) _); exact retOF (by assumption) 7 (by rfl) rfl (by decide +kernel) (by decide +kernel) (by decide +kernel))
  | ((with_reducible show S1 _ _ (.Return (some (.Name "table" _)) _) _); exact retOF (by assumption) 8 (by rfl) rfl (by decide +kernel) (by decide +kernel) (by decide +kernel))
  | ((with_reducible show S1 _ _ (.Return (some (.Name "first" _)) _) _); exact retOF (by assumption) 9 (by rfl) rfl (by decide +kernel) (by decide +kernel) (by decide +kernel))
  | ((with_reducible show S1 _ _ (.Return (some (.Name "left" _)) _) _); exact retOF (by assumption) 10 (by rfl) rfl (by decide +kernel) (by decide +kernel) (by decide +kernel))
  | ((with_reducible show S1 _ _ (.Return (some (.Name "last" _)) _) _); exact retOF (by assumption) 11 (by rfl) rfl (by decide +kernel) (by decide +kernel) (by decide +kernel))
  | ((with_reducible show S1 _ _ (.Return (some (.Name "q" _)) _) _); exact retOF (by assumption) 12 (by rfl) rfl (by decide +kernel) (by decide +kernel) (by decide +kernel))
  | ((with_reducible show S1 _ _ (.Return (some (.Name "same" _)) _) _); exact retOF (by assumption) 13 (by rfl) rfl (by decide +kernel) (by decide +kernel) (by decide +kernel)))
local macro_rules | `(tactic| wtm_at "tgt") => `(tactic| first
  | ((with_reducible show PG _ (.Name "script" _) _); exact tgF (by assumption) (by assumption) 0 (by rfl) (by decide +kernel))
  | ((with_reducible show PG _ (.Name "P" _) _); exact tgF (by assumption) (by assumption) 1 (by rfl) (by decide +kernel))
  | ((with_reducible show PG _ (.Name "many" _) _); exact tgF (by assumption) (by assumption) 2 (by rfl) (by decide +kernel))
  | ((with_reducible show PG _ (.Name "stand" _) _); exact tgF (by assumption) (by assumption) 3 (by rfl) (by decide +kernel))
  | ((with_reducible show PG _ (.Name "items" _) _); exact tgF (by assumption) (by assumption) 4 (by rfl) (by decide +kernel))
  | ((with_reducible show PG _ (.Name "t" _) _); exact tgF (by assumption) (by assumption) 5 (by rfl) (by decide +kernel))
  | ((with_reducible show PG _ (.Name "r" _) _); exact tgF (by assumption) (by assumption) 6 (by rfl) (by decide +kernel))
  | ((with_reducible show PG _ (.Name "told" _) _); exact tgF (by assumption) (by assumption) 7 (by rfl) (by decide +kernel))
  | ((with_reducible show PG _ (.Name "table" _) _); exact tgF (by assumption) (by assumption) 8 (by rfl) (by decide +kernel))
  | ((with_reducible show PG _ (.Name "first" _) _); exact tgF (by assumption) (by assumption) 9 (by rfl) (by decide +kernel))
  | ((with_reducible show PG _ (.Name "left" _) _); exact tgF (by assumption) (by assumption) 10 (by rfl) (by decide +kernel))
  | ((with_reducible show PG _ (.Name "last" _) _); exact tgF (by assumption) (by assumption) 11 (by rfl) (by decide +kernel))
  | ((with_reducible show PG _ (.Name "q" _) _); exact tgF (by assumption) (by assumption) 12 (by rfl) (by decide +kernel))
  | ((with_reducible show PG _ (.Name "same" _) _); exact tgF (by assumption) (by assumption) 13 (by rfl) (by decide +kernel)))
theorem ok_law {f : Addr} {fd : FuncData} (F : Fun K "law" "law" s_law f fd) (hm : mg "law" = some (.ref f)) (b : Binds K fd ["script"] []) (mi : mg "isinstance" = none) (mt : mg "tuple" = none) (mli : mg "list" = none)
    (Gc : Fn P w K mg base 1 "_law_cell" ["script", "k"] rCell) (Gp : Fn P w K mg base 1 "_law_prime" ["cell"] rPrime) (Gd : Fn P w K mg base 1 "_law_digits" ["cell", "P", "size"] rDigits) (Gw : Fn P w K mg base 1 "_law_whole" ["found"] rWhole) (Git : Fn P w K mg base 3 "_law_items" ["cells", "P", "many", "agains"] rItems)
    (Gt : Fn P w K mg base 11 "table_of" ["P", "many", "items"] (rTab 5)) (Grg : Fn P w K mg base 12 "ring" ["P", "many", "items", "stand"] rRing) (Gro : Fn P w K mg base 5 "rounds" ["P", "table", "n"] rRounds) (Glt : Fn P w K mg base 2 "_law_turned" ["P", "table", "stand"] rLTurned) (Gip : Fn P w K mg base 1 "_law_is_prime" ["n"] rIsPrime) : Fn P w K mg base 13 "law" ["script"] rLaw := by
  refine fnF F hm b sc_law (fun ds r h => by cases h; rfl) fun X hX hT ds r h => ?_
  cases h with
  | @mk s hs =>
    refine' sm_cons ?s1 ?_
    case' s1 => wtm_at "st"
    refine' sm_cons ?s2 ?_
    case' s2 => wtm_at "st"
    obtain ⟨hp, hp2⟩ := lawPrime_prm (lawCell s 0)
    generalize lawPrime (lawCell s 0) = p at *
    have p3 := hp.lo
    have p9 := hp.hi
    have p2 : 1 < p := by omega
    have p0 : 0 < p := by omega
    obtain ⟨n, hn, n1, n2⟩ : ∃ n : Nat, 1 + lawCell s 1 % 3 = n ∧ 1 ≤ n ∧ n ≤ 3 := ⟨(1 + lawCell s 1 % 3).toNat, by omega, by omega, by omega⟩
    rw [hn]
    refine' sm_cons ?s3 ?_
    case' s3 => wtm_at "st"
    have en : ((n : Int)).toNat = n := by omega
    rw [en]
    have sl := lawDigits_len (lawCell s 2) p n
    have so : OnW p (lawDigits (lawCell s 2) p n) := lawDigits_mem p0
    generalize lawDigits (lawCell s 2) p n = sd at *
    have hsd : RowOn p n sd := ⟨sl, so⟩
    obtain ⟨is0, hs0⟩ : ∃ i, i = lawItems p n 2 ((s.drop (3 : Int).toNat).take ((63 : Int).toNat - (3 : Int).toNat)) := ⟨_, rfl⟩
    have hg0 : Goods p n is0 := hs0 ▸ lawItems_good p2 n1
    have hl0 : levs is0 ≤ 3 := hs0 ▸ lawItems_lev p2 n1
    refine' sm_cons (A1 := [.dat (.list (s.map .int)), .dat (.int p), .dat (.int n), .dat (tI sd), .dat (tIt is0), .un, .un, .un, .un, .un, .un, .un, .un, .un]) ?s7 ?_
    case' s7 =>
      refine' setF hX hT 4 (by rfl) ?q1 (ev_eq (callF hX Git (by decide) ?a1 (ea_cons (ev_frz ?a2) ?a3) (rItems.mk (P := p) (by omega) (by omega) n1 n2 ?a4) ?a5) ?a6) (by rfl)
      case' q1 => decide +kernel
      case' a1 => decide +kernel
      case' a2 => wtm_at "evl"
      case' a3 => wtm_at "args"
      case' a4 => simp; omega
      case' a5 => decide +kernel
      case a6 => rw [hs0]
    clear hs0
    obtain ⟨its, hg, hl, h5⟩ : ∃ its, Goods p n its ∧ levs its ≤ 5 ∧ S1 X [.dat (.list (s.map .int)), .dat (.int p), .dat (.int n), .dat (tI sd), .dat (tIt is0), .un, .un, .un, .un, .un, .un, .un, .un, .un] ((defBody s_law).getD 4 (.Pass ⟨0, 0, 0, 0⟩)) (.nx [.un, .dat (.int p), .dat (.int n), .dat (tI sd), .dat (tIt its), .un, .un, .un, .un, .un, .un, .un, .un, .un]) := by
      by_cases hc : lawCell s 1 / 3 % 4 = 1
      · refine ⟨is0.take (2 : Int).toNat, goods_take hg0, Nat.le_trans (levs_take hl0) (by omega), ?_⟩
        refine' s1_if (v := true) ?d1 (fun _ => ?u1) fun h => nomatch h
        case' d1 =>
          refine' et_eq ?d2 ?d3
          case' d2 => wtm_at "test"
          case d3 => exact decide_eq_true hc
        case' u1 =>
          refine' sm_le (sm_one ?u2) ?l3
          case' u2 => wtm_at "st"
          case' l3 => exact LeA.cons LeC.un LeA.refl
      · refine ⟨is0, hg0, by omega, ?_⟩
        refine' s1_if (v := false) ?d4 (fun h => nomatch h) fun _ => ?u3
        case' d4 =>
          refine' et_eq ?d5 ?d6
          case' d5 => wtm_at "test"
          case d6 => exact decide_eq_false hc
        case' u3 =>
          refine' sm_le sm_nil ?l4
          case' l4 => exact LeA.cons LeC.un LeA.refl
    refine sm_cons h5 ?_
    clear h5 hg0 hl0
    have tb := tabs_tbl p2 n1 hg
    have rRo := rRing.own hp hg hl n1 n2 hsd
    have rRd := rRing.mk hp hg hl n1 n2 hsd
    have rT := rTab.mk (d := 5) (show 1 < p by omega) p9 n1 (show n ≤ 100 by omega) hg hl
    obtain ⟨f1, f2, f3, f4, f5, f6, f7⟩ := ring_facts hp n1 n2 tb hsd
    have s30 := span_30 hp n1 n2
    obtain ⟨ql, qsm⟩ := rPrimes_small (t := tabs p n its) (s := sd) hp n2
    have hb : RowOn p n (rBase p n (tabs p n its) sd) := orb_on hp tb hsd _
    have eb : orbV p (tabs p n its) sd (rTail p n (tabs p n its) sd) = rBase p n (tabs p n its) sd := rfl
    unfold ringD at rRd
    generalize rPrimes p n (tabs p n its) sd = qs at *
    generalize rLen p n (tabs p n its) sd = r at *
    generalize rBase p n (tabs p n its) sd = bs at *
    generalize rTail p n (tabs p n its) sd = t at *
    generalize tabs p n its = T at *
    refine' sm_cons (A1 := [.un, .dat (.int p), .dat (.int n), .dat (tI sd), .dat (tIt its), .dat (.int t), .dat (.int r), .own (.lst (qs.map .int)), .un, .un, .un, .un, .un, .un]) ?s8 ?_
    case' s8 =>
      refine' unpO hX (js := [5, 6]) (jl := 7) (ds := [.int t, .int r]) (es := qs.map .int) (A' := [.un, .dat (.int p), .dat (.int n), .dat (tI sd), .dat (tIt its), .dat (.int t), .dat (.int r), .un, .un, .un, .un, .un, .un, .un]) ?g8 (callF hX Grg (by decide) ?e8 ?f8 rRo ?h8) ?u8 (by rfl)
      case' g8 =>
        refine' pgs_cons ?g9 (pgs_cons ?g10 (pgs_cons ?g11 pgs_nil))
        case' g9 => wtm_at "tgt"
        case' g10 => wtm_at "tgt"
        case' g11 => wtm_at "tgt"
      case' e8 => decide +kernel
      case' f8 => wtm_at "args"
      case' h8 => decide +kernel
      case' u8 => exact ⟨_, _, rfl, rfl, _, _, rfl, rfl, rfl, rfl⟩
    have nq := noLs_ints qs
    have okc : ∀ (x8 x9 x10 x11 x12 : C), noLC x8 = true → noLC x9 = true → noLC x10 = true → noLC x11 = true → noLC x12 = true → ∀ (i : Nat) (c : C), i ≠ 7 → ([.un, .dat (.int p), .dat (.int n), .dat (tI sd), .dat (tIt its), .dat (.int t), .dat (.int r), .un, x8, x9, x10, x11, x12, .un] : List C)[i]? = some c → noLC c = true := fun x8 x9 x10 x11 x12 h8 h9 h10 h11 h12 i c hi hc => by
      rcases i with _ | _ | _ | _ | _ | _ | _ | _ | _ | _ | _ | _ | _ | _ | i
      · cases hc; rfl
      · cases hc; rfl
      · cases hc; rfl
      · cases hc; simp only [noLC, noL]; exact noLs_ints sd
      · cases hc; simp only [noLC, noL]; exact noL_encs its
      · cases hc; rfl
      · cases hc; rfl
      · exact absurd rfl hi
      · cases hc; exact h8
      · cases hc; exact h9
      · cases hc; exact h10
      · cases hc; exact h11
      · cases hc; exact h12
      · cases hc; rfl
      · simp at hc
    refine' sm_cons (A1 := [.un, .dat (.int p), .dat (.int n), .dat (tI sd), .dat (tIt its), .dat (.int t), .dat (.int r), .own (.lst (qs.map .int)), .un, .un, .un, .un, .un, .un]) ?s12 ?_
    case' s12 =>
      refine' s1_lend 7 (A2 := [.un, .dat (.int p), .dat (.int n), .dat (tI sd), .dat (tIt its), .dat (.int t), .dat (.int r), .un, .un, .un, .un, .un, .un, .un]) (by rfl) nq (fun aq => ?b12) (okc .un .un .un .un .un rfl rfl rfl rfl rfl) (show 7 < 14 by decide)
      case' b12 =>
        refine' s1_if (v := false) ?c12 (fun h => nomatch h) fun _ => sm_nil
        case' c12 =>
          refine' et_eq (ew_et (ew_or (et_not (et_ev (callF hX Gw (by decide) ?d12 ?e12 rWhole.mk ?f12))) fun _ => ew_or ?g12 fun _ => ew_or1 (et_not (et_ev (isiF hX (T := "list") ?h12 mi (knF hX 7 (by rfl) rfl ?i12 ?j12 ?k12) ?l12 mli ?m12 ?n12 ?o12 ?p12))))) ?q12
          case' d12 => decide +kernel
          case' e12 => wtm_at "args"
          case' f12 => decide +kernel
          case' g12 => wtm_at "test"
          case' h12 => decide +kernel
          case' i12 => decide +kernel
          case' j12 => decide +kernel
          case' k12 => decide +kernel
          case' l12 => decide +kernel
          case' m12 => decide +kernel
          case' n12 => (dsimp only [tyD]; show _ = some true; decide +kernel)
          case' o12 => decide
          case' p12 => decide
          case q12 =>
            have z : ¬ r < 1 := by omega
            simp [z]
    refine' sm_cons (A1 := [.un, .dat (.int p), .dat (.int n), .dat (tI sd), .dat (tIt its), .dat (.int t), .dat (.int r), .own (.lst (qs.map .int)), .dat (tT T), .un, .un, .un, .un, .un]) ?s19 ?_
    case' s19 =>
      refine' setF hX hT 8 (by rfl) ?e21 (callF hX Gt (by decide) ?e22 ?e23 rT ?e24) (by rfl)
      case' e21 => decide +kernel
      case' e22 => decide +kernel
      case' e23 => wtm_at "args"
      case' e24 => decide +kernel
    have t30 : (t : Int) ≤ 1000000000000000000000000000000 := by omega
    have t00 : (0 : Int) ≤ t := by omega
    have r30 : r ≤ 1000000000000000000000000000000 := by omega
    have r00 : 0 ≤ r := by omega
    have et : (t : Int).toNat = t := Int.toNat_natCast t
    have twt := pw_tbl p2 n1 tb (t : Int).toNat
    refine' sm_cons (A1 := [.un, .dat (.int p), .dat (.int n), .dat (tI sd), .dat (tIt its), .dat (.int t), .dat (.int r), .own (.lst (qs.map .int)), .dat (tT T), .dat (tI bs), .un, .un, .un, .un]) ?s25 ?_
    case' s25 =>
      refine' setF hX hT 9 (by rfl) ?q25 (ev_eq ?e25 ?f25) (by rfl)
      case' q25 => decide +kernel
      case' e25 => wtm_at "ev"
      case f25 => rw [orb_pw hp tb hsd n1, et, eb]
    refine' sm_cons ?s26 ?_
    case' s26 => wtm_at "st"
    refine' sm_cons ?s27 ?_
    case' s27 => wtm_at "st"
    have lb := hb.1
    refine' sm_cons (A1 := [.un, .dat (.int p), .dat (.int n), .dat (tI sd), .dat (tIt its), .dat (.int t), .dat (.int r), .own (.lst (qs.map .int)), .un, .un, .dat (.int 1), .un, .un, .un]) ?s28 ?_
    case' s28 =>
      refine' s1_lend 7 (A2 := [.un, .dat (.int p), .dat (.int n), .dat (tI sd), .dat (tIt its), .dat (.int t), .dat (.int r), .un, .un, .un, .dat (.int 1), .un, .un, .un]) (by rfl) nq (fun aq => ?b28) (okc .un .un (.dat (.int 1)) .un .un rfl rfl rfl rfl rfl) (show 7 < 14 by decide)
      case' b28 =>
        refine' s1_le (forL hX 12 qs PyData.int (fun i => [.un, .dat (.int p), .dat (.int n), .dat (tI sd), .dat (tIt its), .dat (.int t), .dat (.int r), .kn aq (.list (qs.map .int)), .dat (tT T), .dat (tI bs), .dat (.int (restQ r qs i)), .dat (.int (lastQ qs i)), .un, .un]) ?i28 ?r28 ?g28 ?l28 (fun _ => rfl) (fun i hi => ?b29)) ?l29
        case' i28 =>
          refine' ei_dat (knF hX 7 (by rfl) rfl ?j28 ?k28 ?m28) SeqD.lst
          case' j28 => decide +kernel
          case' k28 => decide +kernel
          case' m28 => decide +kernel
        case' r28 => rfl
        case' g28 => wtm_at "tgt"
        case' l28 => exact LeA.refl
        case' l29 =>
          have e : restQ r qs qs.length = 1 := by
            unfold restQ
            rw [List.take_length]
            exact chain_end f7
          rw [e]
          refine' LeA.cons LeC.refl (LeA.cons LeC.refl (LeA.cons LeC.refl (LeA.cons LeC.refl (LeA.cons LeC.refl (LeA.cons LeC.refl (LeA.cons LeC.refl (LeA.cons LeC.refl (LeA.cons LeC.un (LeA.cons LeC.un (LeA.cons LeC.refl (LeA.cons LeC.un LeA.refl)))))))))))
        obtain ⟨a1, a2, a3, a4, a5⟩ := chain_at f7 f2 (by omega) i hi
        obtain ⟨qb, qp⟩ := qsm _ (List.getElem_mem hi)
        have e3 : (qs.take i).foldl (fun m q => stripI q m) r = restQ r qs i := rfl
        rw [e3] at a3 a4
        have a0 : 1 ≤ restQ r qs i := a3
        have lq : lastQ qs i < qs[i] := by
          unfold lastQ
          split
          · omega
          · rw [List.getD_eq_getElem?_getD, List.getElem?_eq_getElem (by omega)]
            exact a1 (i - 1) (by omega)
        have qd : qs[i] ∣ r := (chain_mem f7 f2 (List.getElem_mem hi)).2
        have rs := restQ_succ (r := r) hi
        have lsq : lastQ qs (i + 1) = qs[i] := by
          show (if i + 1 = 0 then 1 else qs.getD i 0) = _
          rw [if_neg (by omega), List.getD_eq_getElem?_getD, List.getElem?_eq_getElem hi]
          rfl
        generalize hq : qs[i] = q at *
        have q2 := qp.1
        have q8 : q < 1073741824 := by omega
        have qz : 0 < q := by omega
        have qm : r % q = 0 := Int.emod_eq_zero_of_dvd qd
        refine' sm_cons (s1_if (v := false) ?c30 (fun h => nomatch h) fun _ => sm_nil) ?_
        case' c30 =>
          refine' et_eq ?c31 ?c32
          case' c31 => wtm_at "test"
          case c32 =>
            have z : ¬ q ≤ lastQ qs i := by omega
            simp [z, qm]
        have rq0 : 0 ≤ r / q := Int.ediv_nonneg r00 (by omega)
        have rq1 : r / q ≤ 1000000000000000000000000000000 := Int.le_trans (Int.ediv_le_self q r00) r30
        have twq := pw_tbl p2 n1 tb (r / q).toNat
        have rl : r / q < r := Int.ediv_lt_self_of_pos_of_ne_one (by omega) (by omega) |> fun h => h
        have rg : 1 ≤ r / q := by
          obtain ⟨c, hc⟩ := qd
          rw [hc, Int.mul_ediv_cancel_left c (by omega)]
          refine Classical.byContradiction fun z => ?_
          have : q * c ≤ 0 := Int.mul_nonpos_of_nonneg_of_nonpos (by omega) (by omega)
          omega
        refine' sm_cons (s1_if (v := false) ?c33 (fun h => nomatch h) fun _ => sm_nil) ?_
        case' c33 =>
          refine' et_eq ?c34 ?c35
          case' c34 => wtm_at "test"
          case c35 =>
            rw [orb_pw hp tb hb n1]
            exact decide_eq_false (f6 (r / q).toNat (by omega) (by omega))
        obtain ⟨k, k1, k2, k3, k4, k5⟩ := stripI_ok q2 a0
        refine' sm_cons ?s36 ?_
        case' s36 =>
          refine' whileV hX (fun j => [.un, .dat (.int p), .dat (.int n), .dat (tI sd), .dat (tIt its), .dat (.int t), .dat (.int r), .kn aq (.list (qs.map .int)), .dat (tT T), .dat (tI bs), .dat (.int (divs (restQ r qs i) q j)), .un, .dat (.int q), .un]) k (fun j => decide (divs (restQ r qs i) q j % q = 0)) ?l37 (fun j _ => ?t37) (fun j hj => ?v37) ?w37 fun j hj => ?b37
          case' l37 =>
            refine' LeA.cons LeC.refl (LeA.cons LeC.refl (LeA.cons LeC.refl (LeA.cons LeC.refl (LeA.cons LeC.refl (LeA.cons LeC.refl (LeA.cons LeC.refl (LeA.cons LeC.refl (LeA.cons LeC.refl (LeA.cons LeC.refl (LeA.cons LeC.refl (LeA.cons LeC.un LeA.refl)))))))))))
          case' t37 => wtm_at "test"
          case v37 => exact decide_eq_true (k1 j hj)
          case w37 => exact decide_eq_false k2
          case' b37 =>
            refine' sm_le (sm_one ?s38) ?l38
            case' s38 => wtm_at "st"
            case' l38 => exact LeA.refl
        refine' sm_le (sm_one ?s39) ?l39
        case' s39 => wtm_at "st"
        case' l39 =>
          rw [rs, k3, lsq]
          refine' LeA.cons LeC.refl (LeA.cons LeC.refl (LeA.cons LeC.refl (LeA.cons LeC.refl (LeA.cons LeC.refl (LeA.cons LeC.refl (LeA.cons LeC.refl (LeA.cons LeC.refl (LeA.cons LeC.refl (LeA.cons LeC.refl (LeA.cons LeC.refl (LeA.cons LeC.refl (LeA.cons LeC.un LeA.refl))))))))))))
    refine' sm_cons ?s40 ?_
    case' s40 => wtm_at "st"
    have qsz : (qs.map PyData.int).length < sizeLine := by rw [sizeLine_eq, List.length_map]; omega
    refine' sm_cons ?s41 ?_
    case' s41 => wtm_at "st"
    refine' sm_frz 13 rfl ?_
    refine' sm_end (s1_retE (ev_and (v := true) (u := true) (ev_eq ?e42 ?f42) fun _ => ev_one (ev_eq (ev_cmpR (d1 := .tuple [.int t, .int r, .list (qs.map .int)]) (d2 := .tuple [.int t, .int r, .list (qs.map .int)]) (callF hX Grg (by decide) ?g42 ?h42 rRd ?i42) ?j42 (cmpR_eqD hX.room ?k42 ?k42b)) ?l42)) rfl)
    case' e42 => wtm_at "ev"
    case f42 => rfl
    case' g42 => decide +kernel
    case' h42 => wtm_at "args"
    case' i42 => decide +kernel
    case' j42 => wtm_at "ev"
    case k42 =>
      unfold SeqAt.shaped
      simp only [PyData.canLay0, PyData.canLayAll0, PyData.depth, PyData.depthAll, encInt.layAll, Bool.and_true, Bool.true_and]
      have := encInt.depAll qs
      exact decide_eq_true (by omega)
    case k42b =>
      unfold SeqAt.shaped
      simp only [PyData.canLay0, PyData.canLayAll0, PyData.depth, PyData.depthAll, encInt.layAll, Bool.and_true, Bool.true_and]
      have := encInt.depAll qs
      exact decide_eq_true (by omega)
    case l42 =>
      simp only [PyData.eqv, PyData.eqvAll, encInt.eqvAll]
      simp
end
end W

namespace W
open PySem PySem.Spec PyProof.Rows L2 LR
def spL (K : PySem.W.Frag) : L2.Sp := fun vs H Q _ => ∃ (a : Addr) (ns : List Int), vs = [.ref a] ∧ SqL K H a (ns.map V.int) ∧ ns.length ≤ 63 ∧ ∀ H', Q (.bl true) H'
theorem all_mk {l : PySem.W.OpenLaw} {w : World} {K : PySem.W.Frag} {h : Heap} {mg : Str → Option Value} {fa : Addr} (X : K.In h) (G : h.Ns mainGlobals mg) (hfa : mg "law" = some (.ref fa))
    {f_on : Addr} {oc_on kV_on dc_on pm_on cd_on ct_on : Value} {od_on an_on : Option Addr} {sl_on : Array (Option Value)}
    (a_on : PySem.W.nsIn K mainGlobals "on" = some (some (.ref f_on))) (l_on : K.lookup f_on = some ⟨oc_on, od_on, .func (PySem.W.fnOf "on" "on" (defArgs s_on) (defBody s_on) (defScope s_on) .none kV_on dc_on pm_on an_on cd_on ct_on), sl_on⟩) (c_on : PySem.W.codeIn K cd_on "on" = true) (k_on : PySem.W.keepIn K (.ref f_on) = true)
    {f_worth : Addr} {oc_worth kV_worth dc_worth pm_worth cd_worth ct_worth : Value} {od_worth an_worth : Option Addr} {sl_worth : Array (Option Value)}
    (a_worth : PySem.W.nsIn K mainGlobals "worth" = some (some (.ref f_worth))) (l_worth : K.lookup f_worth = some ⟨oc_worth, od_worth, .func (PySem.W.fnOf "worth" "worth" (defArgs s_worth) (defBody s_worth) (defScope s_worth) .none kV_worth dc_worth pm_worth an_worth cd_worth ct_worth), sl_worth⟩) (c_worth : PySem.W.codeIn K cd_worth "worth" = true) (k_worth : PySem.W.keepIn K (.ref f_worth) = true)
    {f_turned : Addr} {oc_turned kV_turned dc_turned pm_turned cd_turned ct_turned : Value} {od_turned an_turned : Option Addr} {sl_turned : Array (Option Value)}
    (a_turned : PySem.W.nsIn K mainGlobals "turned" = some (some (.ref f_turned))) (l_turned : K.lookup f_turned = some ⟨oc_turned, od_turned, .func (PySem.W.fnOf "turned" "turned" (defArgs s_turned) (defBody s_turned) (defScope s_turned) .none kV_turned dc_turned pm_turned an_turned cd_turned ct_turned), sl_turned⟩) (c_turned : PySem.W.codeIn K cd_turned "turned" = true) (k_turned : PySem.W.keepIn K (.ref f_turned) = true)
    {f_box_form : Addr} {oc_box_form kV_box_form dc_box_form pm_box_form cd_box_form ct_box_form : Value} {od_box_form an_box_form : Option Addr} {sl_box_form : Array (Option Value)}
    (a_box_form : PySem.W.nsIn K mainGlobals "box_form" = some (some (.ref f_box_form))) (l_box_form : K.lookup f_box_form = some ⟨oc_box_form, od_box_form, .func (PySem.W.fnOf "box_form" "box_form" (defArgs s_box_form) (defBody s_box_form) (defScope s_box_form) .none kV_box_form dc_box_form pm_box_form an_box_form cd_box_form ct_box_form), sl_box_form⟩) (c_box_form : PySem.W.codeIn K cd_box_form "box_form" = true) (k_box_form : PySem.W.keepIn K (.ref f_box_form) = true)
    {f_idle : Addr} {oc_idle kV_idle dc_idle pm_idle cd_idle ct_idle : Value} {od_idle an_idle : Option Addr} {sl_idle : Array (Option Value)}
    (a_idle : PySem.W.nsIn K mainGlobals "idle" = some (some (.ref f_idle))) (l_idle : K.lookup f_idle = some ⟨oc_idle, od_idle, .func (PySem.W.fnOf "idle" "idle" (defArgs s_idle) (defBody s_idle) (defScope s_idle) .none kV_idle dc_idle pm_idle an_idle cd_idle ct_idle), sl_idle⟩) (c_idle : PySem.W.codeIn K cd_idle "idle" = true) (k_idle : PySem.W.keepIn K (.ref f_idle) = true)
    {f_setting : Addr} {oc_setting kV_setting dc_setting pm_setting cd_setting ct_setting : Value} {od_setting an_setting : Option Addr} {sl_setting : Array (Option Value)}
    (a_setting : PySem.W.nsIn K mainGlobals "setting" = some (some (.ref f_setting))) (l_setting : K.lookup f_setting = some ⟨oc_setting, od_setting, .func (PySem.W.fnOf "setting" "setting" (defArgs s_setting) (defBody s_setting) (defScope s_setting) .none kV_setting dc_setting pm_setting an_setting cd_setting ct_setting), sl_setting⟩) (c_setting : PySem.W.codeIn K cd_setting "setting" = true) (k_setting : PySem.W.keepIn K (.ref f_setting) = true)
    {f_form_behind : Addr} {oc_form_behind kV_form_behind dc_form_behind pm_form_behind cd_form_behind ct_form_behind : Value} {od_form_behind an_form_behind : Option Addr} {sl_form_behind : Array (Option Value)}
    (a_form_behind : PySem.W.nsIn K mainGlobals "form_behind" = some (some (.ref f_form_behind))) (l_form_behind : K.lookup f_form_behind = some ⟨oc_form_behind, od_form_behind, .func (PySem.W.fnOf "form_behind" "form_behind" (defArgs s_form_behind) (defBody s_form_behind) (defScope s_form_behind) .none kV_form_behind dc_form_behind pm_form_behind an_form_behind cd_form_behind ct_form_behind), sl_form_behind⟩) (c_form_behind : PySem.W.codeIn K cd_form_behind "form_behind" = true) (k_form_behind : PySem.W.keepIn K (.ref f_form_behind) = true)
    {f_then : Addr} {oc_then kV_then dc_then pm_then cd_then ct_then : Value} {od_then an_then : Option Addr} {sl_then : Array (Option Value)}
    (a_then : PySem.W.nsIn K mainGlobals "then" = some (some (.ref f_then))) (l_then : K.lookup f_then = some ⟨oc_then, od_then, .func (PySem.W.fnOf "then" "then" (defArgs s_then) (defBody s_then) (defScope s_then) .none kV_then dc_then pm_then an_then cd_then ct_then), sl_then⟩) (c_then : PySem.W.codeIn K cd_then "then" = true) (k_then : PySem.W.keepIn K (.ref f_then) = true)
    {f__law_cell : Addr} {oc__law_cell kV__law_cell dc__law_cell pm__law_cell cd__law_cell ct__law_cell : Value} {od__law_cell an__law_cell : Option Addr} {sl__law_cell : Array (Option Value)}
    (a__law_cell : PySem.W.nsIn K mainGlobals "_law_cell" = some (some (.ref f__law_cell))) (l__law_cell : K.lookup f__law_cell = some ⟨oc__law_cell, od__law_cell, .func (PySem.W.fnOf "_law_cell" "_law_cell" (defArgs s__law_cell) (defBody s__law_cell) (defScope s__law_cell) .none kV__law_cell dc__law_cell pm__law_cell an__law_cell cd__law_cell ct__law_cell), sl__law_cell⟩) (c__law_cell : PySem.W.codeIn K cd__law_cell "_law_cell" = true) (k__law_cell : PySem.W.keepIn K (.ref f__law_cell) = true)
    {f__law_prime : Addr} {oc__law_prime kV__law_prime dc__law_prime pm__law_prime cd__law_prime ct__law_prime : Value} {od__law_prime an__law_prime : Option Addr} {sl__law_prime : Array (Option Value)}
    (a__law_prime : PySem.W.nsIn K mainGlobals "_law_prime" = some (some (.ref f__law_prime))) (l__law_prime : K.lookup f__law_prime = some ⟨oc__law_prime, od__law_prime, .func (PySem.W.fnOf "_law_prime" "_law_prime" (defArgs s__law_prime) (defBody s__law_prime) (defScope s__law_prime) .none kV__law_prime dc__law_prime pm__law_prime an__law_prime cd__law_prime ct__law_prime), sl__law_prime⟩) (c__law_prime : PySem.W.codeIn K cd__law_prime "_law_prime" = true) (k__law_prime : PySem.W.keepIn K (.ref f__law_prime) = true)
    {f__law_digits : Addr} {oc__law_digits kV__law_digits dc__law_digits pm__law_digits cd__law_digits ct__law_digits : Value} {od__law_digits an__law_digits : Option Addr} {sl__law_digits : Array (Option Value)}
    (a__law_digits : PySem.W.nsIn K mainGlobals "_law_digits" = some (some (.ref f__law_digits))) (l__law_digits : K.lookup f__law_digits = some ⟨oc__law_digits, od__law_digits, .func (PySem.W.fnOf "_law_digits" "_law_digits" (defArgs s__law_digits) (defBody s__law_digits) (defScope s__law_digits) .none kV__law_digits dc__law_digits pm__law_digits an__law_digits cd__law_digits ct__law_digits), sl__law_digits⟩) (c__law_digits : PySem.W.codeIn K cd__law_digits "_law_digits" = true) (k__law_digits : PySem.W.keepIn K (.ref f__law_digits) = true)
    {f__law_whole : Addr} {oc__law_whole kV__law_whole dc__law_whole pm__law_whole cd__law_whole ct__law_whole : Value} {od__law_whole an__law_whole : Option Addr} {sl__law_whole : Array (Option Value)}
    (a__law_whole : PySem.W.nsIn K mainGlobals "_law_whole" = some (some (.ref f__law_whole))) (l__law_whole : K.lookup f__law_whole = some ⟨oc__law_whole, od__law_whole, .func (PySem.W.fnOf "_law_whole" "_law_whole" (defArgs s__law_whole) (defBody s__law_whole) (defScope s__law_whole) .none kV__law_whole dc__law_whole pm__law_whole an__law_whole cd__law_whole ct__law_whole), sl__law_whole⟩) (c__law_whole : PySem.W.codeIn K cd__law_whole "_law_whole" = true) (k__law_whole : PySem.W.keepIn K (.ref f__law_whole) = true)
    {f__law_worth : Addr} {oc__law_worth kV__law_worth dc__law_worth pm__law_worth cd__law_worth ct__law_worth : Value} {od__law_worth an__law_worth : Option Addr} {sl__law_worth : Array (Option Value)}
    (a__law_worth : PySem.W.nsIn K mainGlobals "_law_worth" = some (some (.ref f__law_worth))) (l__law_worth : K.lookup f__law_worth = some ⟨oc__law_worth, od__law_worth, .func (PySem.W.fnOf "_law_worth" "_law_worth" (defArgs s__law_worth) (defBody s__law_worth) (defScope s__law_worth) .none kV__law_worth dc__law_worth pm__law_worth an__law_worth cd__law_worth ct__law_worth), sl__law_worth⟩) (c__law_worth : PySem.W.codeIn K cd__law_worth "_law_worth" = true) (k__law_worth : PySem.W.keepIn K (.ref f__law_worth) = true)
    {f__law_turned : Addr} {oc__law_turned kV__law_turned dc__law_turned pm__law_turned cd__law_turned ct__law_turned : Value} {od__law_turned an__law_turned : Option Addr} {sl__law_turned : Array (Option Value)}
    (a__law_turned : PySem.W.nsIn K mainGlobals "_law_turned" = some (some (.ref f__law_turned))) (l__law_turned : K.lookup f__law_turned = some ⟨oc__law_turned, od__law_turned, .func (PySem.W.fnOf "_law_turned" "_law_turned" (defArgs s__law_turned) (defBody s__law_turned) (defScope s__law_turned) .none kV__law_turned dc__law_turned pm__law_turned an__law_turned cd__law_turned ct__law_turned), sl__law_turned⟩) (c__law_turned : PySem.W.codeIn K cd__law_turned "_law_turned" = true) (k__law_turned : PySem.W.keepIn K (.ref f__law_turned) = true)
    {f_ladder : Addr} {oc_ladder kV_ladder dc_ladder pm_ladder cd_ladder ct_ladder : Value} {od_ladder an_ladder : Option Addr} {sl_ladder : Array (Option Value)}
    (a_ladder : PySem.W.nsIn K mainGlobals "ladder" = some (some (.ref f_ladder))) (l_ladder : K.lookup f_ladder = some ⟨oc_ladder, od_ladder, .func (PySem.W.fnOf "ladder" "ladder" (defArgs s_ladder) (defBody s_ladder) (defScope s_ladder) .none kV_ladder dc_ladder pm_ladder an_ladder cd_ladder ct_ladder), sl_ladder⟩) (c_ladder : PySem.W.codeIn K cd_ladder "ladder" = true) (k_ladder : PySem.W.keepIn K (.ref f_ladder) = true)
    {f_rounds : Addr} {oc_rounds kV_rounds dc_rounds pm_rounds cd_rounds ct_rounds : Value} {od_rounds an_rounds : Option Addr} {sl_rounds : Array (Option Value)}
    (a_rounds : PySem.W.nsIn K mainGlobals "rounds" = some (some (.ref f_rounds))) (l_rounds : K.lookup f_rounds = some ⟨oc_rounds, od_rounds, .func (PySem.W.fnOf "rounds" "rounds" (defArgs s_rounds) (defBody s_rounds) (defScope s_rounds) .none kV_rounds dc_rounds pm_rounds an_rounds cd_rounds ct_rounds), sl_rounds⟩) (c_rounds : PySem.W.codeIn K cd_rounds "rounds" = true) (k_rounds : PySem.W.keepIn K (.ref f_rounds) = true)
    {f__law_count : Addr} {oc__law_count kV__law_count dc__law_count pm__law_count cd__law_count ct__law_count : Value} {od__law_count an__law_count : Option Addr} {sl__law_count : Array (Option Value)}
    (a__law_count : PySem.W.nsIn K mainGlobals "_law_count" = some (some (.ref f__law_count))) (l__law_count : K.lookup f__law_count = some ⟨oc__law_count, od__law_count, .func (PySem.W.fnOf "_law_count" "_law_count" (defArgs s__law_count) (defBody s__law_count) (defScope s__law_count) .none kV__law_count dc__law_count pm__law_count an__law_count cd__law_count ct__law_count), sl__law_count⟩) (c__law_count : PySem.W.codeIn K cd__law_count "_law_count" = true) (k__law_count : PySem.W.keepIn K (.ref f__law_count) = true)
    {f__law_set : Addr} {oc__law_set kV__law_set dc__law_set pm__law_set cd__law_set ct__law_set : Value} {od__law_set an__law_set : Option Addr} {sl__law_set : Array (Option Value)}
    (a__law_set : PySem.W.nsIn K mainGlobals "_law_set" = some (some (.ref f__law_set))) (l__law_set : K.lookup f__law_set = some ⟨oc__law_set, od__law_set, .func (PySem.W.fnOf "_law_set" "_law_set" (defArgs s__law_set) (defBody s__law_set) (defScope s__law_set) .none kV__law_set dc__law_set pm__law_set an__law_set cd__law_set ct__law_set), sl__law_set⟩) (c__law_set : PySem.W.codeIn K cd__law_set "_law_set" = true) (k__law_set : PySem.W.keepIn K (.ref f__law_set) = true)
    {f__law_items : Addr} {oc__law_items kV__law_items dc__law_items pm__law_items cd__law_items ct__law_items : Value} {od__law_items an__law_items : Option Addr} {sl__law_items : Array (Option Value)}
    (a__law_items : PySem.W.nsIn K mainGlobals "_law_items" = some (some (.ref f__law_items))) (l__law_items : K.lookup f__law_items = some ⟨oc__law_items, od__law_items, .func (PySem.W.fnOf "_law_items" "_law_items" (defArgs s__law_items) (defBody s__law_items) (defScope s__law_items) .none kV__law_items dc__law_items pm__law_items an__law_items cd__law_items ct__law_items), sl__law_items⟩) (c__law_items : PySem.W.codeIn K cd__law_items "_law_items" = true) (k__law_items : PySem.W.keepIn K (.ref f__law_items) = true)
    {f_table_of : Addr} {oc_table_of kV_table_of dc_table_of pm_table_of cd_table_of ct_table_of : Value} {od_table_of an_table_of : Option Addr} {sl_table_of : Array (Option Value)}
    (a_table_of : PySem.W.nsIn K mainGlobals "table_of" = some (some (.ref f_table_of))) (l_table_of : K.lookup f_table_of = some ⟨oc_table_of, od_table_of, .func (PySem.W.fnOf "table_of" "table_of" (defArgs s_table_of) (defBody s_table_of) (defScope s_table_of) .none kV_table_of dc_table_of pm_table_of an_table_of cd_table_of ct_table_of), sl_table_of⟩) (c_table_of : PySem.W.codeIn K cd_table_of "table_of" = true) (k_table_of : PySem.W.keepIn K (.ref f_table_of) = true)
    {f_primes_of : Addr} {oc_primes_of kV_primes_of dc_primes_of pm_primes_of cd_primes_of ct_primes_of : Value} {od_primes_of an_primes_of : Option Addr} {sl_primes_of : Array (Option Value)}
    (a_primes_of : PySem.W.nsIn K mainGlobals "primes_of" = some (some (.ref f_primes_of))) (l_primes_of : K.lookup f_primes_of = some ⟨oc_primes_of, od_primes_of, .func (PySem.W.fnOf "primes_of" "primes_of" (defArgs s_primes_of) (defBody s_primes_of) (defScope s_primes_of) .none kV_primes_of dc_primes_of pm_primes_of an_primes_of cd_primes_of ct_primes_of), sl_primes_of⟩) (c_primes_of : PySem.W.codeIn K cd_primes_of "primes_of" = true) (k_primes_of : PySem.W.keepIn K (.ref f_primes_of) = true)
    {f__law_is_prime : Addr} {oc__law_is_prime kV__law_is_prime dc__law_is_prime pm__law_is_prime cd__law_is_prime ct__law_is_prime : Value} {od__law_is_prime an__law_is_prime : Option Addr} {sl__law_is_prime : Array (Option Value)}
    (a__law_is_prime : PySem.W.nsIn K mainGlobals "_law_is_prime" = some (some (.ref f__law_is_prime))) (l__law_is_prime : K.lookup f__law_is_prime = some ⟨oc__law_is_prime, od__law_is_prime, .func (PySem.W.fnOf "_law_is_prime" "_law_is_prime" (defArgs s__law_is_prime) (defBody s__law_is_prime) (defScope s__law_is_prime) .none kV__law_is_prime dc__law_is_prime pm__law_is_prime an__law_is_prime cd__law_is_prime ct__law_is_prime), sl__law_is_prime⟩) (c__law_is_prime : PySem.W.codeIn K cd__law_is_prime "_law_is_prime" = true) (k__law_is_prime : PySem.W.keepIn K (.ref f__law_is_prime) = true)
    {f_parts_of_span : Addr} {oc_parts_of_span kV_parts_of_span dc_parts_of_span pm_parts_of_span cd_parts_of_span ct_parts_of_span : Value} {od_parts_of_span an_parts_of_span : Option Addr} {sl_parts_of_span : Array (Option Value)}
    (a_parts_of_span : PySem.W.nsIn K mainGlobals "parts_of_span" = some (some (.ref f_parts_of_span))) (l_parts_of_span : K.lookup f_parts_of_span = some ⟨oc_parts_of_span, od_parts_of_span, .func (PySem.W.fnOf "parts_of_span" "parts_of_span" (defArgs s_parts_of_span) (defBody s_parts_of_span) (defScope s_parts_of_span) .none kV_parts_of_span dc_parts_of_span pm_parts_of_span an_parts_of_span cd_parts_of_span ct_parts_of_span), sl_parts_of_span⟩) (c_parts_of_span : PySem.W.codeIn K cd_parts_of_span "parts_of_span" = true) (k_parts_of_span : PySem.W.keepIn K (.ref f_parts_of_span) = true)
    {f_jumped : Addr} {oc_jumped kV_jumped dc_jumped pm_jumped cd_jumped ct_jumped : Value} {od_jumped an_jumped : Option Addr} {sl_jumped : Array (Option Value)}
    (a_jumped : PySem.W.nsIn K mainGlobals "jumped" = some (some (.ref f_jumped))) (l_jumped : K.lookup f_jumped = some ⟨oc_jumped, od_jumped, .func (PySem.W.fnOf "jumped" "jumped" (defArgs s_jumped) (defBody s_jumped) (defScope s_jumped) .none kV_jumped dc_jumped pm_jumped an_jumped cd_jumped ct_jumped), sl_jumped⟩) (c_jumped : PySem.W.codeIn K cd_jumped "jumped" = true) (k_jumped : PySem.W.keepIn K (.ref f_jumped) = true)
    {f_ring : Addr} {oc_ring kV_ring dc_ring pm_ring cd_ring ct_ring : Value} {od_ring an_ring : Option Addr} {sl_ring : Array (Option Value)}
    (a_ring : PySem.W.nsIn K mainGlobals "ring" = some (some (.ref f_ring))) (l_ring : K.lookup f_ring = some ⟨oc_ring, od_ring, .func (PySem.W.fnOf "ring" "ring" (defArgs s_ring) (defBody s_ring) (defScope s_ring) .none kV_ring dc_ring pm_ring an_ring cd_ring ct_ring), sl_ring⟩) (c_ring : PySem.W.codeIn K cd_ring "ring" = true) (k_ring : PySem.W.keepIn K (.ref f_ring) = true)
    {f_law : Addr} {oc_law kV_law dc_law pm_law cd_law ct_law : Value} {od_law an_law : Option Addr} {sl_law : Array (Option Value)}
    (a_law : PySem.W.nsIn K mainGlobals "law" = some (some (.ref f_law))) (l_law : K.lookup f_law = some ⟨oc_law, od_law, .func (PySem.W.fnOf "law" "law" (defArgs s_law) (defBody s_law) (defScope s_law) .none kV_law dc_law pm_law an_law cd_law ct_law), sl_law⟩) (c_law : PySem.W.codeIn K cd_law "law" = true) (k_law : PySem.W.keepIn K (.ref f_law) = true)
    (z_any : PySem.W.nsIn K mainGlobals "any" = some none)
    (z_bool : PySem.W.nsIn K mainGlobals "bool" = some none)
    (z_int : PySem.W.nsIn K mainGlobals "int" = some none)
    (z_isinstance : PySem.W.nsIn K mainGlobals "isinstance" = some none)
    (z_len : PySem.W.nsIn K mainGlobals "len" = some none)
    (z_list : PySem.W.nsIn K mainGlobals "list" = some none)
    (z_max : PySem.W.nsIn K mainGlobals "max" = some none)
    (z_min : PySem.W.nsIn K mainGlobals "min" = some none)
    (z_range : PySem.W.nsIn K mainGlobals "range" = some none)
    (z_sorted : PySem.W.nsIn K mainGlobals "sorted" = some none)
    (z_sum : PySem.W.nsIn K mainGlobals "sum" = some none)
    (z_tuple : PySem.W.nsIn K mainGlobals "tuple" = some none) :
    ∃ fd : FuncData, (∀ (s : Shared) (v : Value), BindsTo s fd ⟨[v], []⟩ [("script", v)]) ∧ ∀ base : Heap, K.In base → base.Ns mainGlobals mg → FnOk l.prog w K mg base (L2.CX l.prog w) 13 fa fd ["script"] (spL K) := by
  have m_on : mg "on" = some (.ref f_on) := PySem.W.mg_of X G a_on
  have F_on := fun_mk (st := s_on) l_on c_on k_on
  have b_on := F_on.binds (ps := ["P", "n"]) fun _ _ _ _ _ _ us hl => match us, hl with | [_, _], _ => rfl
  have m_worth : mg "worth" = some (.ref f_worth) := PySem.W.mg_of X G a_worth
  have F_worth := fun_mk (st := s_worth) l_worth c_worth k_worth
  have b_worth := F_worth.binds (ps := ["P", "form", "stand"]) fun _ _ _ _ _ _ us hl => match us, hl with | [_, _, _], _ => rfl
  have m_turned : mg "turned" = some (.ref f_turned) := PySem.W.mg_of X G a_turned
  have F_turned := fun_mk (st := s_turned) l_turned c_turned k_turned
  have b_turned := F_turned.binds (ps := ["P", "table", "stand"]) fun _ _ _ _ _ _ us hl => match us, hl with | [_, _, _], _ => rfl
  have m_box_form : mg "box_form" = some (.ref f_box_form) := PySem.W.mg_of X G a_box_form
  have F_box_form := fun_mk (st := s_box_form) l_box_form c_box_form k_box_form
  have b_box_form := F_box_form.binds (ps := ["many", "x"]) fun _ _ _ _ _ _ us hl => match us, hl with | [_, _], _ => rfl
  have m_idle : mg "idle" = some (.ref f_idle) := PySem.W.mg_of X G a_idle
  have F_idle := fun_mk (st := s_idle) l_idle c_idle k_idle
  have b_idle := F_idle.binds (ps := ["many"]) fun _ _ _ _ _ _ us hl => match us, hl with | [_], _ => rfl
  have m_setting : mg "setting" = some (.ref f_setting) := PySem.W.mg_of X G a_setting
  have F_setting := fun_mk (st := s_setting) l_setting c_setting k_setting
  have b_setting := F_setting.binds (ps := ["many", "x", "form"]) fun _ _ _ _ _ _ us hl => match us, hl with | [_, _, _], _ => rfl
  have m_form_behind : mg "form_behind" = some (.ref f_form_behind) := PySem.W.mg_of X G a_form_behind
  have F_form_behind := fun_mk (st := s_form_behind) l_form_behind c_form_behind k_form_behind
  have b_form_behind := F_form_behind.binds (ps := ["P", "one", "form"]) fun _ _ _ _ _ _ us hl => match us, hl with | [_, _, _], _ => rfl
  have m_then : mg "then" = some (.ref f_then) := PySem.W.mg_of X G a_then
  have F_then := fun_mk (st := s_then) l_then c_then k_then
  have b_then := F_then.binds (ps := ["P", "one", "other"]) fun _ _ _ _ _ _ us hl => match us, hl with | [_, _, _], _ => rfl
  have m__law_cell : mg "_law_cell" = some (.ref f__law_cell) := PySem.W.mg_of X G a__law_cell
  have F__law_cell := fun_mk (st := s__law_cell) l__law_cell c__law_cell k__law_cell
  have b__law_cell := F__law_cell.binds (ps := ["script", "k"]) fun _ _ _ _ _ _ us hl => match us, hl with | [_, _], _ => rfl
  have m__law_prime : mg "_law_prime" = some (.ref f__law_prime) := PySem.W.mg_of X G a__law_prime
  have F__law_prime := fun_mk (st := s__law_prime) l__law_prime c__law_prime k__law_prime
  have b__law_prime := F__law_prime.binds (ps := ["cell"]) fun _ _ _ _ _ _ us hl => match us, hl with | [_], _ => rfl
  have m__law_digits : mg "_law_digits" = some (.ref f__law_digits) := PySem.W.mg_of X G a__law_digits
  have F__law_digits := fun_mk (st := s__law_digits) l__law_digits c__law_digits k__law_digits
  have b__law_digits := F__law_digits.binds (ps := ["cell", "P", "size"]) fun _ _ _ _ _ _ us hl => match us, hl with | [_, _, _], _ => rfl
  have m__law_whole : mg "_law_whole" = some (.ref f__law_whole) := PySem.W.mg_of X G a__law_whole
  have F__law_whole := fun_mk (st := s__law_whole) l__law_whole c__law_whole k__law_whole
  have b__law_whole := F__law_whole.binds (ps := ["found"]) fun _ _ _ _ _ _ us hl => match us, hl with | [_], _ => rfl
  have m__law_worth : mg "_law_worth" = some (.ref f__law_worth) := PySem.W.mg_of X G a__law_worth
  have F__law_worth := fun_mk (st := s__law_worth) l__law_worth c__law_worth k__law_worth
  have b__law_worth := F__law_worth.binds (ps := ["P", "form", "stand"]) fun _ _ _ _ _ _ us hl => match us, hl with | [_, _, _], _ => rfl
  have m__law_turned : mg "_law_turned" = some (.ref f__law_turned) := PySem.W.mg_of X G a__law_turned
  have F__law_turned := fun_mk (st := s__law_turned) l__law_turned c__law_turned k__law_turned
  have b__law_turned := F__law_turned.binds (ps := ["P", "table", "stand"]) fun _ _ _ _ _ _ us hl => match us, hl with | [_, _, _], _ => rfl
  have m_ladder : mg "ladder" = some (.ref f_ladder) := PySem.W.mg_of X G a_ladder
  have F_ladder := fun_mk (st := s_ladder) l_ladder c_ladder k_ladder
  have b_ladder := F_ladder.binds (ps := ["P", "table", "n"]) fun _ _ _ _ _ _ us hl => match us, hl with | [_, _, _], _ => rfl
  have m_rounds : mg "rounds" = some (.ref f_rounds) := PySem.W.mg_of X G a_rounds
  have F_rounds := fun_mk (st := s_rounds) l_rounds c_rounds k_rounds
  have b_rounds := F_rounds.binds (ps := ["P", "table", "n"]) fun _ _ _ _ _ _ us hl => match us, hl with | [_, _, _], _ => rfl
  have m__law_count : mg "_law_count" = some (.ref f__law_count) := PySem.W.mg_of X G a__law_count
  have F__law_count := fun_mk (st := s__law_count) l__law_count c__law_count k__law_count
  have b__law_count := F__law_count.binds (ps := ["cell"]) fun _ _ _ _ _ _ us hl => match us, hl with | [_], _ => rfl
  have m__law_set : mg "_law_set" = some (.ref f__law_set) := PySem.W.mg_of X G a__law_set
  have F__law_set := fun_mk (st := s__law_set) l__law_set c__law_set k__law_set
  have b__law_set := F__law_set.binds (ps := ["cell", "more", "P", "many"]) fun _ _ _ _ _ _ us hl => match us, hl with | [_, _, _, _], _ => rfl
  have m__law_items : mg "_law_items" = some (.ref f__law_items) := PySem.W.mg_of X G a__law_items
  have F__law_items := fun_mk (st := s__law_items) l__law_items c__law_items k__law_items
  have b__law_items := F__law_items.binds (ps := ["cells", "P", "many", "agains"]) fun _ _ _ _ _ _ us hl => match us, hl with | [_, _, _, _], _ => rfl
  have m_table_of : mg "table_of" = some (.ref f_table_of) := PySem.W.mg_of X G a_table_of
  have F_table_of := fun_mk (st := s_table_of) l_table_of c_table_of k_table_of
  have b_table_of := F_table_of.binds (ps := ["P", "many", "items"]) fun _ _ _ _ _ _ us hl => match us, hl with | [_, _, _], _ => rfl
  have m_primes_of : mg "primes_of" = some (.ref f_primes_of) := PySem.W.mg_of X G a_primes_of
  have F_primes_of := fun_mk (st := s_primes_of) l_primes_of c_primes_of k_primes_of
  have b_primes_of := F_primes_of.binds (ps := ["n"]) fun _ _ _ _ _ _ us hl => match us, hl with | [_], _ => rfl
  have m__law_is_prime : mg "_law_is_prime" = some (.ref f__law_is_prime) := PySem.W.mg_of X G a__law_is_prime
  have F__law_is_prime := fun_mk (st := s__law_is_prime) l__law_is_prime c__law_is_prime k__law_is_prime
  have b__law_is_prime := F__law_is_prime.binds (ps := ["n"]) fun _ _ _ _ _ _ us hl => match us, hl with | [_], _ => rfl
  have m_parts_of_span : mg "parts_of_span" = some (.ref f_parts_of_span) := PySem.W.mg_of X G a_parts_of_span
  have F_parts_of_span := fun_mk (st := s_parts_of_span) l_parts_of_span c_parts_of_span k_parts_of_span
  have b_parts_of_span := F_parts_of_span.binds (ps := ["P", "many"]) fun _ _ _ _ _ _ us hl => match us, hl with | [_, _], _ => rfl
  have m_jumped : mg "jumped" = some (.ref f_jumped) := PySem.W.mg_of X G a_jumped
  have F_jumped := fun_mk (st := s_jumped) l_jumped c_jumped k_jumped
  have b_jumped := F_jumped.binds (ps := ["P", "steps", "n", "stand"]) fun _ _ _ _ _ _ us hl => match us, hl with | [_, _, _, _], _ => rfl
  have m_ring : mg "ring" = some (.ref f_ring) := PySem.W.mg_of X G a_ring
  have F_ring := fun_mk (st := s_ring) l_ring c_ring k_ring
  have b_ring := F_ring.binds (ps := ["P", "many", "items", "stand"]) fun _ _ _ _ _ _ us hl => match us, hl with | [_, _, _, _], _ => rfl
  have m_law : mg "law" = some (.ref f_law) := PySem.W.mg_of X G a_law
  have F_law := fun_mk (st := s_law) l_law c_law k_law
  have b_law := F_law.binds (ps := ["script"]) fun _ _ _ _ _ _ us hl => match us, hl with | [_], _ => rfl
  have y_any : mg "any" = none := PySem.W.mg_none_of X G z_any
  have y_bool : mg "bool" = none := PySem.W.mg_none_of X G z_bool
  have y_int : mg "int" = none := PySem.W.mg_none_of X G z_int
  have y_isinstance : mg "isinstance" = none := PySem.W.mg_none_of X G z_isinstance
  have y_len : mg "len" = none := PySem.W.mg_none_of X G z_len
  have y_list : mg "list" = none := PySem.W.mg_none_of X G z_list
  have y_max : mg "max" = none := PySem.W.mg_none_of X G z_max
  have y_min : mg "min" = none := PySem.W.mg_none_of X G z_min
  have y_range : mg "range" = none := PySem.W.mg_none_of X G z_range
  have y_sorted : mg "sorted" = none := PySem.W.mg_none_of X G z_sorted
  have y_sum : mg "sum" = none := PySem.W.mg_none_of X G z_sum
  have y_tuple : mg "tuple" = none := PySem.W.mg_none_of X G z_tuple
  have e := hfa.symm.trans m_law
  cases e
  refine ⟨PySem.W.fnOf "law" "law" (defArgs s_law) (defBody s_law) (defScope s_law) .none kV_law dc_law pm_law an_law cd_law ct_law, fun s v => .of_eq rfl, fun base _ _ => ?_⟩
  have key : ∃ f fd, FnOk l.prog w K mg base (L2.CX l.prog w) 13 f fd ["script"] (Spec K mg rLaw) ∧ mg "law" = some (.ref f) ∧ fd = PySem.W.fnOf "law" "law" (defArgs s_law) (defBody s_law) (defScope s_law) .none kV_law dc_law pm_law an_law cd_law ct_law := by
    have g_on := ok_on (P := l.prog) (w := w) (base := base) F_on m_on b_on
    have g_worth := ok_worth (P := l.prog) (w := w) (base := base) F_worth m_worth b_worth (by with_reducible assumption) (by with_reducible assumption) (by with_reducible assumption)
    have g_turned := ok_turned (P := l.prog) (w := w) (base := base) F_turned m_turned b_turned (by with_reducible assumption) (by with_reducible assumption)
    have g_box_form := ok_box (P := l.prog) (w := w) (base := base) F_box_form m_box_form b_box_form (by with_reducible assumption) (by with_reducible assumption) (by with_reducible assumption)
    have g_idle := ok_idle (P := l.prog) (w := w) (base := base) F_idle m_idle b_idle (by with_reducible assumption) (by with_reducible assumption) (by with_reducible assumption)
    have g_setting := ok_setting (P := l.prog) (w := w) (base := base) F_setting m_setting b_setting (by with_reducible assumption) (by with_reducible assumption) (by with_reducible assumption)
    have g_form_behind := ok_behind (P := l.prog) (w := w) (base := base) F_form_behind m_form_behind b_form_behind (by with_reducible assumption) (by with_reducible assumption) (by with_reducible assumption) (by with_reducible assumption)
    have g_then := ok_then (P := l.prog) (w := w) (base := base) F_then m_then b_then (by with_reducible assumption) (by with_reducible assumption)
    have g__law_cell := ok_cell (P := l.prog) (w := w) (base := base) F__law_cell m__law_cell b__law_cell (by with_reducible assumption)
    have g__law_prime := ok_prime (P := l.prog) (w := w) (base := base) F__law_prime m__law_prime b__law_prime (by with_reducible assumption) (by with_reducible assumption)
    have g__law_digits := ok_digits (P := l.prog) (w := w) (base := base) F__law_digits m__law_digits b__law_digits (by with_reducible assumption) (by with_reducible assumption)
    have g__law_whole := ok_whole (P := l.prog) (w := w) (base := base) F__law_whole m__law_whole b__law_whole (by with_reducible assumption) (by with_reducible assumption) (by with_reducible assumption)
    have g__law_worth := ok_lworth (P := l.prog) (w := w) (base := base) F__law_worth m__law_worth b__law_worth (by with_reducible assumption) (by with_reducible assumption) (by with_reducible assumption)
    have g__law_turned := ok_lturned (P := l.prog) (w := w) (base := base) F__law_turned m__law_turned b__law_turned (by with_reducible assumption) (by with_reducible assumption)
    have g_ladder := ok_ladder (P := l.prog) (w := w) (base := base) F_ladder m_ladder b_ladder (by with_reducible assumption)
    have g_rounds := ok_rounds (P := l.prog) (w := w) (base := base) F_rounds m_rounds b_rounds (by with_reducible assumption) (by with_reducible assumption) (by with_reducible assumption) (by with_reducible assumption)
    have g__law_count := ok_count (P := l.prog) (w := w) (base := base) F__law_count m__law_count b__law_count
    have g__law_set := ok_set (P := l.prog) (w := w) (base := base) F__law_set m__law_set b__law_set (by with_reducible assumption)
    have g__law_items := ok_items (P := l.prog) (w := w) (base := base) F__law_items m__law_items b__law_items (by with_reducible assumption) (by with_reducible assumption) (by with_reducible assumption) (by with_reducible assumption) (by with_reducible assumption) (by with_reducible assumption) (by with_reducible assumption)
    have g_table_of := ok_table_of (P := l.prog) (w := w) (base := base) F_table_of m_table_of b_table_of (by with_reducible assumption) (by with_reducible assumption) (by with_reducible assumption) (by with_reducible assumption)
    have g_primes_of := ok_primes (P := l.prog) (w := w) (base := base) F_primes_of m_primes_of b_primes_of (by with_reducible assumption)
    have g__law_is_prime := ok_isprime (P := l.prog) (w := w) (base := base) F__law_is_prime m__law_is_prime b__law_is_prime
    have g_parts_of_span := ok_span (P := l.prog) (w := w) (base := base) F_parts_of_span m_parts_of_span b_parts_of_span
    have g_jumped := ok_jumped (P := l.prog) (w := w) (base := base) F_jumped m_jumped b_jumped (by with_reducible assumption)
    have g_ring := ok_ring (P := l.prog) (w := w) (base := base) F_ring m_ring b_ring (by with_reducible assumption) (by with_reducible assumption) (by with_reducible assumption) (by with_reducible assumption) (by with_reducible assumption) (by with_reducible assumption) (by with_reducible assumption)
    have g_law := ok_law (P := l.prog) (w := w) (base := base) F_law m_law b_law (by with_reducible assumption) (by with_reducible assumption) (by with_reducible assumption) (by with_reducible assumption) (by with_reducible assumption) (by with_reducible assumption) (by with_reducible assumption) (by with_reducible assumption) (by with_reducible assumption) (by with_reducible assumption) (by with_reducible assumption) (by with_reducible assumption) (by with_reducible assumption)
    exact g_law.withFd m_law l_law
  obtain ⟨f, fd, hF, e1, e2⟩ := key
  have e3 := hfa.symm.trans e1
  cases e3
  subst e2
  refine hF.imp fun vs H Q E hsp => ?_
  obtain ⟨a, ns, rfl, hS, hlen, q⟩ := hsp
  refine ⟨H, [.list (ns.map .int)], .ok (.dat (.bool true)), Same.refl H, .cons (.lst hS (dpAll_ints ns)) .nil, .mk hlen, fun v I' H' g hv => ?_⟩
  rw [dp_bool hv]
  exact q H'
end W
open PySem PySem.W PyProof.Rows
set_option maxHeartbeats 0 in
theorem PySem.Challenge.cw_longrounds_k63_primes_of_rings_holds : PySem.Challenge.rw_longrounds_k63_primes_of_rings.Holds := by
  w_on; o_law; k_head; (case hw => w_witness2)
  k_fill
  refine L2.walk_of (l := PySem.Challenge.rw_longrounds_k63_primes_of_rings) (n := 63) (k := 13) (x := "script") (CX := fun w => L2.CX (PySem.Challenge.rw_longrounds_k63_primes_of_rings).prog w) (sp := fun w => W.spL _) rfl (by decide) rfl ⟨rfl, by decide, by decide⟩ (fun w h Y => PySem.W.kIn_of Y) ?F (fun _ _ a ns hl _ hS => ⟨a, ns, rfl, hS, hl, fun _ => rfl⟩) (fun _ _ _ _ _ h => by
    obtain ⟨_, _, _, _, _, _, _, _, _, _, _, _, z⟩ := h
    exact z.elim)
  case F =>
    intro w mg fa h KX G hmg
    refine' W.all_mk KX G hmg ?a_on ?l_on ?c_on ?k_on ?a_worth ?l_worth ?c_worth ?k_worth ?a_turned ?l_turned ?c_turned ?k_turned ?a_box_form ?l_box_form ?c_box_form ?k_box_form ?a_idle ?l_idle ?c_idle ?k_idle ?a_setting ?l_setting ?c_setting ?k_setting ?a_form_behind ?l_form_behind ?c_form_behind ?k_form_behind ?a_then ?l_then ?c_then ?k_then ?a__law_cell ?l__law_cell ?c__law_cell ?k__law_cell ?a__law_prime ?l__law_prime ?c__law_prime ?k__law_prime ?a__law_digits ?l__law_digits ?c__law_digits ?k__law_digits ?a__law_whole ?l__law_whole ?c__law_whole ?k__law_whole ?a__law_worth ?l__law_worth ?c__law_worth ?k__law_worth ?a__law_turned ?l__law_turned ?c__law_turned ?k__law_turned ?a_ladder ?l_ladder ?c_ladder ?k_ladder ?a_rounds ?l_rounds ?c_rounds ?k_rounds ?a__law_count ?l__law_count ?c__law_count ?k__law_count ?a__law_set ?l__law_set ?c__law_set ?k__law_set ?a__law_items ?l__law_items ?c__law_items ?k__law_items ?a_table_of ?l_table_of ?c_table_of ?k_table_of ?a_primes_of ?l_primes_of ?c_primes_of ?k_primes_of ?a__law_is_prime ?l__law_is_prime ?c__law_is_prime ?k__law_is_prime ?a_parts_of_span ?l_parts_of_span ?c_parts_of_span ?k_parts_of_span ?a_jumped ?l_jumped ?c_jumped ?k_jumped ?a_ring ?l_ring ?c_ring ?k_ring ?a_law ?l_law ?c_law ?k_law ?z_any ?z_bool ?z_int ?z_isinstance ?z_len ?z_list ?z_max ?z_min ?z_range ?z_sorted ?z_sum ?z_tuple
    (case a_on => k_is)
    (case l_on => k_is)
    (case c_on => k_is)
    (case k_on => k_is)
    (case a_worth => k_is)
    (case l_worth => k_is)
    (case c_worth => k_is)
    (case k_worth => k_is)
    (case a_turned => k_is)
    (case l_turned => k_is)
    (case c_turned => k_is)
    (case k_turned => k_is)
    (case a_box_form => k_is)
    (case l_box_form => k_is)
    (case c_box_form => k_is)
    (case k_box_form => k_is)
    (case a_idle => k_is)
    (case l_idle => k_is)
    (case c_idle => k_is)
    (case k_idle => k_is)
    (case a_setting => k_is)
    (case l_setting => k_is)
    (case c_setting => k_is)
    (case k_setting => k_is)
    (case a_form_behind => k_is)
    (case l_form_behind => k_is)
    (case c_form_behind => k_is)
    (case k_form_behind => k_is)
    (case a_then => k_is)
    (case l_then => k_is)
    (case c_then => k_is)
    (case k_then => k_is)
    (case a__law_cell => k_is)
    (case l__law_cell => k_is)
    (case c__law_cell => k_is)
    (case k__law_cell => k_is)
    (case a__law_prime => k_is)
    (case l__law_prime => k_is)
    (case c__law_prime => k_is)
    (case k__law_prime => k_is)
    (case a__law_digits => k_is)
    (case l__law_digits => k_is)
    (case c__law_digits => k_is)
    (case k__law_digits => k_is)
    (case a__law_whole => k_is)
    (case l__law_whole => k_is)
    (case c__law_whole => k_is)
    (case k__law_whole => k_is)
    (case a__law_worth => k_is)
    (case l__law_worth => k_is)
    (case c__law_worth => k_is)
    (case k__law_worth => k_is)
    (case a__law_turned => k_is)
    (case l__law_turned => k_is)
    (case c__law_turned => k_is)
    (case k__law_turned => k_is)
    (case a_ladder => k_is)
    (case l_ladder => k_is)
    (case c_ladder => k_is)
    (case k_ladder => k_is)
    (case a_rounds => k_is)
    (case l_rounds => k_is)
    (case c_rounds => k_is)
    (case k_rounds => k_is)
    (case a__law_count => k_is)
    (case l__law_count => k_is)
    (case c__law_count => k_is)
    (case k__law_count => k_is)
    (case a__law_set => k_is)
    (case l__law_set => k_is)
    (case c__law_set => k_is)
    (case k__law_set => k_is)
    (case a__law_items => k_is)
    (case l__law_items => k_is)
    (case c__law_items => k_is)
    (case k__law_items => k_is)
    (case a_table_of => k_is)
    (case l_table_of => k_is)
    (case c_table_of => k_is)
    (case k_table_of => k_is)
    (case a_primes_of => k_is)
    (case l_primes_of => k_is)
    (case c_primes_of => k_is)
    (case k_primes_of => k_is)
    (case a__law_is_prime => k_is)
    (case l__law_is_prime => k_is)
    (case c__law_is_prime => k_is)
    (case k__law_is_prime => k_is)
    (case a_parts_of_span => k_is)
    (case l_parts_of_span => k_is)
    (case c_parts_of_span => k_is)
    (case k_parts_of_span => k_is)
    (case a_jumped => k_is)
    (case l_jumped => k_is)
    (case c_jumped => k_is)
    (case k_jumped => k_is)
    (case a_ring => k_is)
    (case l_ring => k_is)
    (case c_ring => k_is)
    (case k_ring => k_is)
    (case a_law => k_is)
    (case l_law => k_is)
    (case c_law => k_is)
    (case k_law => k_is)
    (case z_any => k_is)
    (case z_bool => k_is)
    (case z_int => k_is)
    (case z_isinstance => k_is)
    (case z_len => k_is)
    (case z_list => k_is)
    (case z_max => k_is)
    (case z_min => k_is)
    (case z_range => k_is)
    (case z_sorted => k_is)
    (case z_sum => k_is)
    (case z_tuple => k_is)
