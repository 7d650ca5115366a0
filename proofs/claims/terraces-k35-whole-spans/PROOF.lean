import PyProof.Rows.All
import Wide.All
import OpenK.AllK
import Wide.FinOn
import PySem.Challenge.RW_terraces_k35_whole_spans
import HandS.ForMost
import HandS.Evl
import HandS.Conv
import HandS.Codes
import HandS.Deep
import HandS.IsInst
import HandS.SetFor
import HandS.Strs
import HandS.SortInts
import HandS.Style
import HandS.TupAny
import HandS.Zip
import KE.DatumOrd
import HandS.Iter
import HandS.Sort
import HandS.Dict
import HandS.DictTup
import KE.KDictSum
import KE.KDictCopyH
import KE.KDictWalk
import KE.KDictDisplayH
import KE.KDictZip
import KE.GoesEnum
import HandS.Set
import HandS.TupSets
import KE.SortData
import HandS.Lambda
import HandS.EndTab
import KE.KLam
import KE.SortKeyHeap
import KE.KSortKey
import PyProof.ListRange
set_option Elab.async false
set_option linter.all false
set_option maxRecDepth 100000
set_option maxHeartbeats 4000000
/-! the frame of the walk: frozen heaps, what stands for what, evaluations that only add -/
namespace Tr
open PySem PySem.Spec PyProof.Rows L2 Evl RZ

/-! ### the defs of the text -/
def top (i : Nat) : Stmt := PySem.Challenge.pw_terraces_k35_whole_spans.main.body.getD i (.Pass ⟨0, 0, 0, 0⟩)

/-! ### a def that may be called -/
structure Cal (P : Program) (w : World) (K : PySem.W.Frag) (mg : Str → Option Value) (base : Heap) (k : Nat) (x : Str) (sp : Sp) : Prop where
  ex : ∃ (f : Addr) (fd : FuncData) (ps : List Str), FnOk P w K mg base L2.CX0 k f fd ps sp ∧ mg x = some (.ref f) ∧ PySem.W.keepIn K (.ref f) = true ∧ Binds K fd ps []
theorem pe_k {X : Cx} {k j : Nat} {x : Str} {sp : Sp} {p pos : Pos} {e : Expr} {es : List Expr} {t : TA} (c : Cal X.prog X.w X.K X.mg X.base k x sp) (hr : Room j X.A) (hk : k ≤ j) (hg : Gl X x) (ha : PA X (e :: es) t)
    (hdb : (x == ("__debug__" : Str)) = false := by decide) (he : starEach (e :: es) X.env = (false, eval e X.env) :: starEach es X.env := by rfl) (hpl : (backTo pos (starEach es X.env)).any (·.1) = false := by rfl) :
    PE X (.Call (.Name x p) (e :: es) [] pos) (tCall sp [] L2.E0 t) := by
  obtain ⟨f, fd, ps, F, hm, kp, b⟩ := c.ex
  exact pe_call F (hr.mono hk) hg hm kp b .nil L2.pass0 ha hdb he hpl
/-- a def of the module as it stands behind the top -/
structure Def (K : PySem.W.Frag) (mg : Str → Option Value) (x : Str) (st : Stmt) (ps : List Str) : Prop where
  ex : ∃ (f : Addr) (fd : FuncData), Fun K x x st f fd ∧ mg x = some (.ref f) ∧ Binds K fd ps []
theorem Def.cal {P : Program} {w : World} {K : PySem.W.Frag} {mg : Str → Option Value} {base : Heap} {x : Str} {st : Stmt} {N ps : List Str} {k : Nat} {sp : Sp} (F : Def K mg x st ps) (S : FnScope N ps (defScope st)) (len : ∀ vs H Q E, sp vs H Q E → vs.length = ps.length)
    (hbody : ∀ (f : Addr) (cdv : Value) (A : Around) (outer : List Env) (s : Shared) (H : Hp) (vs : List V) (Q : VK) (E : XK), Room k (A.deeper (envOfC x (defScope st) s.heap.objs.size f cdv)) → sp vs H Q E →
      ∃ t, PSs (cxOf L2.CX0 P w K mg base N x (defScope st) f cdv A outer s H E).nox (defBody st) t ∧ t { nx := fun _ H' => Q .non H', rt := Q } (start N vs) H) : Cal P w K mg base (k + 1) x sp := by
  obtain ⟨f, fd, F1, g, b⟩ := F.ex
  exact ⟨f, fd, ps, F1.ok S len (hbody f), g, F1.kp, b⟩
/-- what is never reached -/
def tNo : TE := fun _ _ _ => False
theorem pe_never {X : Cx} {e : Expr} : PE X e tNo := ⟨fun _ _ _ _ _ _ h => h.elim⟩
theorem nomark' {X : Cx} {e : Expr} {x : Str} {pos : Pos} : behindInMarks .In (.Name x pos) = false := rfl

/-! ### frozen and actual heap -/
structure Grow (F H G H2 : Hp) : Prop where
  act : Ex H H2
  fz : Ex F G
  sub : Ex G H2
  new : ∀ a o, G a = some o → F a = some o ∨ H a = none
theorem Grow.of {F H H2 : Hp} (e : Ex F H) (a : Ex H H2) : Grow F H F H2 := ⟨a, Ex.refl F, e.trans a, fun _ _ h => .inl h⟩
theorem Grow.refl {F H : Hp} (e : Ex F H) : Grow F H F H := Grow.of e (Ex.refl H)
theorem Grow.trans {F H G H2 G2 H3 : Hp} (a : Grow F H G H2) (b : Grow G H2 G2 H3) : Grow F H G2 H3 := ⟨a.act.trans b.act, a.fz.trans b.fz, b.sub, fun x o h => by
  rcases b.new x o h with q | q
  · exact a.new x o q
  · exact .inr (fresh_back a.act q)⟩
/-- a cell that is written goes on standing beside what is frozen -/
theorem Grow.cell {F H G H2 : Hp} (g : Grow F H G H2) {p : Addr} {o : HO} (f : F p = none) (h : H p = some o) : G p = none ∧ H2 p = some o := by
  refine ⟨?_, g.act p o h⟩
  cases e : G p with
  | none => rfl
  | some u =>
    rcases g.new p u e with q | q
    · rw [f] at q; cases q
    · rw [h] at q; cases q
theorem Grow.gone {F H G H2 : Hp} (g : Grow F H G H2) {p : Addr} {o : HO} (f : F p = Option.none) (h : H p = some o) : G p = Option.none := (g.cell f h).1
def join (F G : Hp) : Hp := fun a => match F a with
  | some o => some o
  | none => G a
theorem join_l {F G : Hp} : Ex F (join F G) := fun a o h => by unfold join; rw [h]
theorem join_r {F G H : Hp} (f : Ex F H) (g : Ex G H) : Ex G (join F G) := fun a o h => by
  unfold join
  cases e : F a with
  | none => exact h
  | some u =>
    have h1 := f a u e
    have h2 := g a o h
    rw [h1] at h2
    exact h2
theorem join_sub {F G H : Hp} (f : Ex F H) (g : Ex G H) : Ex (join F G) H := fun a o h => by
  unfold join at h
  cases e : F a with
  | none => rw [e] at h; exact g a o h
  | some u =>
    rw [e] at h
    have h2 : u = o := Option.some.inj h
    rw [← h2]
    exact f a u e
theorem Grow.lift {F F' H G H2 : Hp} (e : Ex F F') (f : Ex F' H) (g : Grow F H G H2) : Grow F' H (join F' G) H2 ∧ Ex G (join F' G) := by
  have f2 : Ex F' H2 := f.trans g.act
  refine ⟨⟨g.act, join_l, join_sub f2 g.sub, fun a o h => ?_⟩, join_r f2 g.sub⟩
  unfold join at h
  cases q : F' a with
  | some u => rw [q] at h; exact .inl h
  | none =>
    rw [q] at h
    rcases g.new a o h with z | z
    · rw [e a o z] at q; cases q
    · exact .inr z
/-- a new object becomes part of what is frozen -/
theorem Grow.put {F H G H2 : Hp} (g : Grow F H G H2) {p : Addr} {o : HO} (n : H p = Option.none) (h : H2 p = some o) : Grow F H (upd G p o) H2 := by
  refine ⟨g.act, fun a u q => ?_, fun a u q => ?_, fun a u q => ?_⟩
  · by_cases e : a = p
    · subst e
      have := g.sub a u (g.fz a u q)
      rw [h] at this
      cases this
      exact upd_same
    · rw [upd_ne e]; exact g.fz a u q
  · by_cases e : a = p
    · subst e; rw [upd_same] at q; cases q; exact h
    · rw [upd_ne e] at q; exact g.sub a u q
  · by_cases e : a = p
    · subst e; exact .inr n
    · rw [upd_ne e] at q; exact g.new a u q
/-- a new object, laid on the actual heap -/
theorem Grow.lay {F H : Hp} (e : Ex F H) {p : Addr} {o : HO} (n : H p = Option.none) : Grow F H (upd F p o) (upd H p o) :=
  (Grow.of e (Ex.new n)).put n upd_same
theorem Ex.wr {F H : Hp} {p : Addr} {o : HO} (e : Ex F H) (f : F p = none) : Ex F (upd H p o) := Ex.mut e f
theorem Ex.updl {F H : Hp} {p : Addr} {o : HO} (e : Ex F H) (h : H p = some o) : Ex (upd F p o) H := fun a u q => by
  by_cases c : a = p
  · subst c; rw [upd_same] at q; cases q; exact h
  · rw [upd_ne c] at q; exact e a u q

/-! ### what stands for what -/
abbrev Rp (T : Type) := Hp → V → T → Prop
class Mono {T : Type} (R : Rp T) : Prop where
  mono : ∀ {H H' : Hp} {v : V} {x : T}, Ex H H' → R H v x → R H' v x
def rInt : Rp Int := fun _ v i => v = .int i
def rNat : Rp Nat := fun _ v i => v = .int (i : Int)
def rBl : Rp Bool := fun _ v b => v = .bl b
def rOpt {T : Type} (R : Rp T) : Rp (Option T) := fun H v o => match o with
  | none => v = .non
  | some x => R H v x
abbrev rSeq {T : Type} (R : Rp T) (H : Hp) : List V → List T → Prop := Paired (R H)
def rLst {T : Type} (K : PySem.W.Frag) (R : Rp T) : Rp (List T) := fun H v xs => ∃ p vs, v = .ref p ∧ SqL K H p vs ∧ rSeq R H vs xs
def rTup {T : Type} (K : PySem.W.Frag) (R : Rp T) : Rp (List T) := fun H v xs => ∃ p vs, v = .ref p ∧ SqT K H p vs ∧ rSeq R H vs xs
def rPr {T U : Type} (K : PySem.W.Frag) (R : Rp T) (S : Rp U) : Rp (T × U) := fun H v x => ∃ p a b, v = .ref p ∧ SqT K H p [a, b] ∧ R H a x.1 ∧ S H b x.2
theorem paired_mono {T : Type} {R S : V → T → Prop} (h : ∀ v x, R v x → S v x) : ∀ {vs : List V} {xs : List T}, Paired R vs xs → Paired S vs xs
  | _, _, .nil => .nil
  | _, _, .cons a t => .cons (h _ _ a) (paired_mono h t)
instance : Mono rInt := ⟨fun _ h => h⟩
instance : Mono rNat := ⟨fun _ h => h⟩
instance : Mono rBl := ⟨fun _ h => h⟩
instance {T : Type} {R : Rp T} [m : Mono R] : Mono (rOpt R) := ⟨fun {H H' v x} e h => by
  cases x with
  | none => exact h
  | some x => exact m.mono e h⟩
theorem seq_mono {T : Type} {R : Rp T} [m : Mono R] {H H' : Hp} {vs : List V} {xs : List T} (e : Ex H H') (h : rSeq R H vs xs) : rSeq R H' vs xs := paired_mono (fun _ _ q => m.mono e q) h
instance {T : Type} {K : PySem.W.Frag} {R : Rp T} [m : Mono R] : Mono (rLst K R) := ⟨fun {H H' v x} e h => by
  obtain ⟨p, vs, h1, h2, h3⟩ := h
  exact ⟨p, vs, h1, ex_l e h2, seq_mono e h3⟩⟩
instance {T : Type} {K : PySem.W.Frag} {R : Rp T} [m : Mono R] : Mono (rTup K R) := ⟨fun {H H' v x} e h => by
  obtain ⟨p, vs, h1, h2, h3⟩ := h
  exact ⟨p, vs, h1, ex_t e h2, seq_mono e h3⟩⟩
instance {T U : Type} {K : PySem.W.Frag} {R : Rp T} {S : Rp U} [m : Mono R] [n : Mono S] : Mono (rPr K R S) := ⟨fun {H H' v x} e h => by
  obtain ⟨p, a, b, h1, h2, h3, h4⟩ := h
  exact ⟨p, a, b, h1, ex_t e h2, m.mono e h3, n.mono e h4⟩⟩
theorem seq_ints {H : Hp} : ∀ (ns : List Int), rSeq rInt H (ns.map V.int) ns
  | [] => .nil
  | n :: r => .cons rfl (seq_ints r)
theorem ints_of {H : Hp} : ∀ {vs : List V} {ns : List Int}, rSeq rInt H vs ns → vs = ns.map V.int
  | _, _, .nil => rfl
  | _, _, .cons a t => by
    rw [List.map_cons, ← ints_of t]
    exact congrArg (· :: _) a
def nV (k : Nat) : V := .int (k : Int)
theorem seq_nats {H : Hp} : ∀ (ns : List Nat), rSeq rNat H (ns.map nV) ns
  | [] => .nil
  | n :: r => .cons rfl (seq_nats r)
theorem nats_of {H : Hp} : ∀ {vs : List V} {ns : List Nat}, rSeq rNat H vs ns → vs = ns.map nV
  | _, _, .nil => rfl
  | _, _, .cons a t => by
    rw [List.map_cons, ← nats_of t]
    exact congrArg (· :: _) a
theorem map_nV (ns : List Nat) : ns.map nV = (ns.map fun (k : Nat) => (k : Int)).map V.int := by
  rw [List.map_map]
  rfl
theorem seq_len {T : Type} {R : V → T → Prop} : ∀ {vs : List V} {xs : List T}, Paired R vs xs → vs.length = xs.length
  | _, _, .nil => rfl
  | _, _, .cons _ t => by rw [List.length_cons, List.length_cons, seq_len t]
theorem seq_get {T : Type} {R : V → T → Prop} : ∀ {vs : List V} {xs : List T} {i : Nat} {x : T}, Paired R vs xs → xs[i]? = some x → ∃ v, vs[i]? = some v ∧ R v x
  | _, _, _, _, .nil, h => by simp at h
  | _, _, 0, _, .cons a _, h => by
    have e := Option.some.inj h
    subst e
    exact ⟨_, rfl, a⟩
  | _, _, i + 1, x, .cons _ t, h => seq_get (i := i) (x := x) t h
theorem seq_getv {T : Type} {R : V → T → Prop} : ∀ {vs : List V} {xs : List T} {i : Nat} {v : V}, Paired R vs xs → vs[i]? = some v → ∃ x, xs[i]? = some x ∧ R v x
  | _, _, _, _, .nil, h => by simp at h
  | _, _, 0, _, .cons a _, h => by
    have e := Option.some.inj h
    subst e
    exact ⟨_, rfl, a⟩
  | _, _, i + 1, x, .cons _ t, h => seq_getv (i := i) (v := x) t h
theorem seq_app {T : Type} {R : V → T → Prop} {v : V} {x : T} (h : R v x) : ∀ {vs : List V} {xs : List T}, Paired R vs xs → Paired R (vs ++ [v]) (xs ++ [x])
  | _, _, .nil => .cons h .nil
  | _, _, .cons a t => .cons a (seq_app h t)
theorem seq_set {T : Type} {R : V → T → Prop} {v : V} {x : T} (h : R v x) : ∀ {vs : List V} {xs : List T} (i : Nat), Paired R vs xs → Paired R (vs.set i v) (xs.set i x)
  | _, _, _, .nil => .nil
  | _, _, 0, .cons _ t => .cons h t
  | _, _, i + 1, .cons a t => .cons a (seq_set h i t)
theorem seq_map {T U : Type} {R : V → T → Prop} {S : V → U → Prop} {f : T → U} (h : ∀ v x, R v x → S v (f x)) : ∀ {vs : List V} {xs : List T}, Paired R vs xs → Paired S vs (xs.map f)
  | _, _, .nil => .nil
  | _, _, .cons a t => .cons (h _ _ a) (seq_map h t)

/-! ### evaluations -/
/-- te gives some x under P, told by R in what is frozen behind it -/
def EvP {T : Type} (R : Rp T) (P : T → Prop) (te : TE) (σ : L2.St) (F : Hp) : Prop := ∀ H, Ex F H → ∀ Q : VK, (∀ x v G H2, P x → Grow F H G H2 → R G v x → Q v H2) → te σ H Q
abbrev EvR {T : Type} (R : Rp T) (te : TE) (σ : L2.St) (F : Hp) (x : T) : Prop := EvP R (fun y => y = x) te σ F
/-- a new list that may be written from now on -/
def EvN {T : Type} (R : Rp T) (P : List T → Prop) (te : TE) (σ : L2.St) (F : Hp) : Prop := ∀ H, Ex F H → ∀ Q : VK, (∀ xs p vs G H2, P xs → Grow F H G H2 → G p = none → H p = none → H2 p = some (.lst vs) → rSeq R G vs xs → Q (.ref p) H2) → te σ H Q
section
variable {K : PySem.W.Frag} {σ : L2.St} {F F' : Hp} {ta tb tc te tx : TE} {t u : TT} {T U W : Type} {R : Rp T} {S : Rp U} {P : T → Prop} {P2 : U → Prop}
theorem EvP.mono [m : Mono R] (e : Ex F F') (h : EvP R P te σ F) : EvP R P te σ F' := fun H f Q q => h H (e.trans f) Q fun x v G H2 p g r => by
  obtain ⟨g1, g2⟩ := g.lift e f
  exact q x v _ H2 p g1 (m.mono g2 r)
theorem EvP.imp {P' : T → Prop} (h : EvP R P te σ F) (i : ∀ x, P x → P' x) : EvP R P' te σ F := fun H f Q q => h H f Q fun x v G H2 p g r => q x v G H2 (i x p) g r
theorem EvN.toR [m : Mono R] {PL : List T → Prop} (h : EvN R PL te σ F) : EvP (rLst K R) PL te σ F := fun H f Q q => h H f Q fun xs p vs G H2 pl g gp hp h2 r =>
  q xs (.ref p) (upd G p (.lst vs)) H2 pl (g.put hp h2) ⟨p, vs, rfl, SqL.of upd_same, seq_mono (Ex.new gp) r⟩
theorem evr_var {i : Nat} {v : V} {x : T} (h : σ[i]? = some (some v)) (r : R F v x) : EvR R (tVar i) σ F x := fun H f Q q => ⟨v, h, q x v F H rfl (Grow.refl f) r⟩
theorem evr_int {i : Int} (h : Ev te σ F (.int i)) : EvR rInt te σ F i := fun H f Q q => h H f Q fun H2 e => q i _ F H2 rfl (Grow.of f e) rfl
theorem evr_nat {i : Nat} (h : Ev te σ F (.int (i : Int))) : EvR rNat te σ F i := fun H f Q q => h H f Q fun H2 e => q i _ F H2 rfl (Grow.of f e) rfl
theorem ev_int {i : Int} (h : EvR rInt te σ F i) : Ev te σ F (.int i) := fun H f Q q => h H f Q fun x v G H2 p g r => by
  subst p
  cases (show v = .int x from r)
  exact q H2 g.act
theorem ev_nat {i : Nat} (h : EvR rNat te σ F i) : Ev te σ F (.int (i : Int)) := fun H f Q q => h H f Q fun x v G H2 p g r => by
  subst p
  cases (show v = .int (x : Int) from r)
  exact q H2 g.act
theorem ev_bl {b : Bool} (h : EvR rBl te σ F b) : Ev te σ F (.bl b) := fun H f Q q => h H f Q fun x v G H2 p g r => by
  subst p
  cases (show v = .bl x from r)
  exact q H2 g.act
theorem evr_bl {b : Bool} (h : Ev te σ F (.bl b)) : EvR rBl te σ F b := fun H f Q q => h H f Q fun H2 e => q b _ F H2 rfl (Grow.of f e) rfl
/-- a scalar out of two values of any kind -/
theorem ev_opP {r : R2} {z : V} [Mono R] [Mono S] (ha : EvP R P ta σ F) (hb : EvP S P2 tb σ F) (hr : ∀ x y v w G, Ex F G → P x → P2 y → R G v x → S G w y → RV r v w G z) : Ev (tOp r ta tb) σ F z := fun H f Q q =>
  ha H f _ fun x v G H2 px g rx => (hb.mono g.fz) H2 g.sub _ fun y w G2 H3 py g2 ry => hr x y v w G2 (g.fz.trans g2.fz) px py (Mono.mono g2.fz rx) ry H3 g2.sub Q fun H4 e4 => q H4 ((g.act.trans g2.act).trans e4)
theorem ev_unP {r : V → Hp → VK → Prop} {z : V} (ha : EvP R P ta σ F) (hr : ∀ x v G, Ex F G → P x → R G v x → RU r v G z) : Ev (tUn r ta) σ F z := fun H f Q q =>
  ha H f _ fun x v G H2 px g rx => hr x v G g.fz px rx H2 g.sub Q fun H4 e4 => q H4 (g.act.trans e4)
/-- a call of a built-in on one value of any kind -/
theorem ev_cb1 {r : List V → Hp → VK → Prop} {z : V} (ha : EvP R P ta σ F) (hr : ∀ x v G, Ex F G → P x → R G v x → RC r [v] G z) : Ev (tCB r (tCons ta tNil)) σ F z := fun H f Q q =>
  ha H f _ fun x v G H2 px g rx => hr x v G g.fz px rx H2 g.sub Q fun H4 e4 => q H4 (g.act.trans e4)
/-- an item of a list, a tuple -/
theorem evr_ixL [m : Mono R] {xs : List T} {i : Int} {x : T} (ha : EvR (rLst K R) ta σ F xs) (hb : Ev tb σ F (.int i)) (hx : atI xs i = some x) : EvR R (tOp (rIxL K) ta tb) σ F x := fun H f Q q =>
  ha H f _ fun y v G H2 px g rx => hb H2 (f.trans g.act) _ fun H3 e3 => by
    subst px
    obtain ⟨p, vs, rfl, hs, r⟩ := rx
    have el := seq_len r
    unfold atI at hx
    rw [← el] at hx
    cases hj : ixN vs.length i with
    | none => rw [hj] at hx; cases hx
    | some j =>
      rw [hj] at hx
      obtain ⟨w, h1, h2⟩ := seq_get r hx
      refine ⟨p, vs, i, w, rfl, rfl, ex_l (g.sub.trans e3) hs, ?_, q x w G H3 rfl (g.trans (Grow.of g.sub e3)) h2⟩
      unfold atI
      rw [hj]
      exact h1
theorem evr_ixT [m : Mono R] {xs : List T} {i : Int} {x : T} (ha : EvR (rTup K R) ta σ F xs) (hb : Ev tb σ F (.int i)) (hx : atI xs i = some x) : EvR R (tOp (rIxT K) ta tb) σ F x := fun H f Q q =>
  ha H f _ fun y v G H2 px g rx => hb H2 (f.trans g.act) _ fun H3 e3 => by
    subst px
    obtain ⟨p, vs, rfl, hs, r⟩ := rx
    have el := seq_len r
    unfold atI at hx
    rw [← el] at hx
    cases hj : ixN vs.length i with
    | none => rw [hj] at hx; cases hx
    | some j =>
      rw [hj] at hx
      obtain ⟨w, h1, h2⟩ := seq_get r hx
      refine ⟨p, vs, i, w, rfl, rfl, ex_t (g.sub.trans e3) hs, ?_, q x w G H3 rfl (g.trans (Grow.of g.sub e3)) h2⟩
      unfold atI
      rw [hj]
      exact h1
theorem evr_pr0 {x : T} {y : U} (ha : EvR (rPr K R S) ta σ F (x, y)) (hb : Ev tb σ F (.int 0)) : EvR R (tOp (rIxT K) ta tb) σ F x := fun H f Q q =>
  ha H f _ fun z v G H2 px g rx => hb H2 (f.trans g.act) _ fun H3 e3 => by
    subst px
    obtain ⟨p, a, b, rfl, hs, r1, r2⟩ := rx
    exact ⟨p, [a, b], 0, a, rfl, rfl, ex_t (g.sub.trans e3) hs, rfl, q x a G H3 rfl (g.trans (Grow.of g.sub e3)) r1⟩
theorem evr_pr1 {x : T} {y : U} (ha : EvR (rPr K R S) ta σ F (x, y)) (hb : Ev tb σ F (.int 1)) : EvR S (tOp (rIxT K) ta tb) σ F y := fun H f Q q =>
  ha H f _ fun z v G H2 px g rx => hb H2 (f.trans g.act) _ fun H3 e3 => by
    subst px
    obtain ⟨p, a, b, rfl, hs, r1, r2⟩ := rx
    exact ⟨p, [a, b], 1, b, rfl, rfl, ex_t (g.sub.trans e3) hs, rfl, q y b G H3 rfl (g.trans (Grow.of g.sub e3)) r2⟩
theorem atN {xs : List T} {i : Nat} {x : T} (h : xs[i]? = some x) : atI xs (i : Int) = some x := atI_nat h
/-! ### arguments -/
inductive Args : List V → Hp → List (Hp → V → Prop) → Prop where
  | nil {G : Hp} : Args [] G []
  | cons {v : V} {vs : List V} {G : Hp} {r : Hp → V → Prop} {rs : List (Hp → V → Prop)} : r G v → Args vs G rs → Args (v :: vs) G (r :: rs)
/-- the arguments' values, each told in what is frozen behind all -/
def EvAs (ta : TA) (σ : L2.St) (F : Hp) (P : List V → Hp → Prop) : Prop := ∀ H, Ex F H → ∀ Q : List V → Hp → Prop, (∀ vs G H2, Grow F H G H2 → P vs G → Q vs H2) → ta σ H Q
theorem eas_nil {P : List V → Hp → Prop} (h : P [] F) : EvAs tNil σ F P := fun H f Q q => q [] F H (Grow.refl f) h
theorem eas_cons {ta : TE} {tr : TA} {Pa : List V → Hp → Prop} [m : Mono R] (h : EvP R P ta σ F) (hr : ∀ x v G, Ex F G → P x → R G v x → EvAs tr σ G (fun vs G2 => R G2 v x → Pa (v :: vs) G2)) : EvAs (tCons ta tr) σ F Pa := fun H f Q q =>
  h H f _ fun x v G H2 px g rx => hr x v G g.fz px rx H2 g.sub _ fun vs G2 H3 g2 pa => q (v :: vs) G2 H3 (g.trans g2) (pa (m.mono g2.fz rx))
/-- a call of a def -/
theorem evp_call {sp : Sp} {E : XK} {ta : TA} {Pa : List V → Hp → Prop} (h : EvAs ta σ F Pa) (hs : ∀ vs G, Ex F G → Pa vs G → ∀ H, Ex G H → ∀ Q : VK, (∀ x v G2 H2, P x → Grow G H G2 H2 → R G2 v x → Q v H2) → sp (vs ++ []) H Q E) : EvP R P (tCall sp [] E ta) σ F := fun H f Q q =>
  h H f _ fun vs G H2 g pa => hs vs G g.fz pa H2 g.sub Q fun x v G2 H3 px g2 rx => q x v G2 H3 px (g.trans g2) rx
theorem evn_call {sp : Sp} {E : XK} {ta : TA} {Pa : List V → Hp → Prop} {PL : List T → Prop} (h : EvAs ta σ F Pa) (hs : ∀ vs G, Ex F G → Pa vs G → ∀ H, Ex G H → ∀ Q : VK, (∀ xs p vs G2 H2, PL xs → Grow G H G2 H2 → G2 p = none → H p = none → H2 p = some (.lst vs) → rSeq R G2 vs xs → Q (.ref p) H2) → sp (vs ++ []) H Q E) : EvN R PL (tCall sp [] E ta) σ F := fun H f Q q =>
  h H f _ fun vs G H2 g pa => hs vs G g.fz pa H2 g.sub Q fun xs p ws G2 H3 pl g2 n1 n2 h3 r => q xs p ws G2 H3 pl (g.trans g2) n1 (fresh_back g.act n2) h3 r
/-- a written list, a written tuple: its items any values -/
theorem evn_lst {ta : TA} {PL : List T → Prop} (h : EvAs ta σ F (fun vs G => vs.length ≤ 100000 ∧ ∃ xs, PL xs ∧ rSeq R G vs xs)) : EvN R PL (tLst ta) σ F := fun H f Q q =>
  h H f _ fun vs G H2 g ⟨l, xs, pl, r⟩ => ⟨sz_of l, fun p hp => by
    have g' := g.trans (Grow.of (H2 := upd H2 p (.lst vs)) g.sub (Ex.new hp))
    exact q xs p vs G _ pl g' (fresh_back g.sub hp) (fresh_back g.act hp) upd_same r⟩
theorem evp_tup {ta : TA} (h : EvAs ta σ F (fun vs G => vs.length ≤ 100000 ∧ ∃ x, P x ∧ ∀ (G2 : Hp) (p : Addr), Ex G G2 → G2 p = some (.tup vs) → R G2 (.ref p) x)) : EvP R P (tTup ta) σ F := fun H f Q q =>
  h H f _ fun vs G H2 g ⟨l, x, px, r⟩ => ⟨sz_of l, fun p hp => by
    have n1 : H p = none := fresh_back g.act hp
    have g' : Grow F H (upd G p (.tup vs)) (upd H2 p (.tup vs)) := (g.trans (Grow.of (H2 := upd H2 p (.tup vs)) g.sub (Ex.new hp))).put n1 upd_same
    exact q x _ _ _ px g' (r _ p (Ex.new (fresh_back g.sub hp)) upd_same)⟩
end
end Tr
/-! loops and comprehensions over frozen data -/
namespace Tr
open PySem PySem.Spec PyProof.Rows L2 Evl RZ
section
variable {K : PySem.W.Frag} {σ : L2.St} {F F' H G H2 : Hp} {ta tb tc te tx tl : TE} {t u : TT} {T U W : Type} {R : Rp T} {S : Rp U} {P : T → Prop} {D : Ends} {g : TG} {ts : TS}
theorem Grow.wr {p : Addr} {o : HO} (a : Grow F H G H2) (g : G p = none) (n : H p = none) : Grow F H G (upd H2 p o) := ⟨Ex.mut a.act n, a.fz, Ex.mut a.sub g, a.new⟩
theorem Grow.ex {H3 : Hp} (a : Grow F H G H2) (e : Ex H2 H3) : Grow F H G H3 := a.trans (Grow.of a.sub e)
theorem Grow.free {p : Addr} (a : Grow F H G H2) (n : H2 p = none) : H p = none ∧ G p = none := ⟨fresh_back a.act n, fresh_back a.sub n⟩
/-- the target a, b of a pair -/
abbrev gPair (K : PySem.W.Frag) (j l : Nat) : TG := gTup K 2 (gCons (gName j) (gCons (gName l) gNil))
theorem g_pair {j l : Nat} {p : Addr} {a b : V} {Q : L2.St → Hp → Prop} (h : SqT K H p [a, b]) (q : Q ((σ.set j (some a)).set l (some b)) H) : gPair K j l (.ref p) σ H Q :=
  ⟨p, [a, b], rfl, h, rfl, a, [b], rfl, b, [], rfl, rfl, q⟩
/-! ### for -/
/-- over a list that stands in what is frozen -/
theorem for_lst {xs : List T} (h : EvP (rLst K R) (fun ys => ys = xs) tl σ F) (e : Ex F H) (Pv : Hp → Nat → L2.St → Hp → Prop) (hP : ∀ G i σ H, Pv G i σ H → Ex G H) (h0 : ∀ G H2, Grow F H G H2 → Pv G 0 σ H2)
    (hs : ∀ G i x v σ' H', Ex F G → xs[i]? = some x → R G v x → Pv G i σ' H' → g v σ' H' fun σ2 H2 => ts { D with nx := Pv G (i + 1), ct := Pv G (i + 1), bk := D.nx } σ2 H2) (hd : ∀ G σ' H', Ex F G → Pv G xs.length σ' H' → D.nx σ' H') :
    tFor (iList K tl) g ts D σ H := h H e _ fun ys v G H2 px gr r => by
  subst px
  obtain ⟨p, vs, rfl, hl, r⟩ := r
  have el := seq_len r
  refine ⟨p, rfl, ⟨vs, ex_l gr.sub hl⟩, for_list (xs := vs) (Pv G) (h0 G H2 gr) (fun i σ' H' _ q => ex_l (hP G i σ' H' q) hl) (fun i w σ' H' hw q => ?_) (fun σ' H' q => hd G σ' H' gr.fz (by rw [← el]; exact q))⟩
  obtain ⟨x, hx, rx⟩ := seq_getv r hw
  exact hs G i x w σ' H' gr.fz hx rx q
theorem for_tpl {xs : List T} (h : EvP (rTup K R) (fun ys => ys = xs) tl σ F) (e : Ex F H) (Pv : Hp → Nat → L2.St → Hp → Prop) (hP : ∀ G i σ H, Pv G i σ H → Ex G H) (h0 : ∀ G H2, Grow F H G H2 → Pv G 0 σ H2)
    (hs : ∀ G i x v σ' H', Ex F G → xs[i]? = some x → R G v x → Pv G i σ' H' → g v σ' H' fun σ2 H2 => ts { D with nx := Pv G (i + 1), ct := Pv G (i + 1), bk := D.nx } σ2 H2) (hd : ∀ G σ' H', Ex F G → Pv G xs.length σ' H' → D.nx σ' H') :
    tFor (iTup K tl) g ts D σ H := h H e _ fun ys v G H2 px gr r => by
  subst px
  obtain ⟨p, vs, rfl, hl, r⟩ := r
  have el := seq_len r
  refine ⟨p, rfl, ⟨vs, ex_t gr.sub hl⟩, for_tup (xs := vs) (Pv G) (h0 G H2 gr) (fun i σ' H' _ q => ex_t (hP G i σ' H' q) hl) (fun i w σ' H' hw q => ?_) (fun σ' H' q => hd G σ' H' gr.fz (by rw [← el]; exact q))⟩
  obtain ⟨x, hx, rx⟩ := seq_getv r hw
  exact hs G i x w σ' H' gr.fz hx rx q
/-- for i, x in enumerate(xs) -/
theorem for_enu {P : List T → Prop} {j l : Nat} (h : EvP (rLst K R) P te σ F) (e : Ex F H) (Pv : List T → Hp → Nat → L2.St → Hp → Prop) (hP : ∀ xs G i σ H, Pv xs G i σ H → Ex G H) (h0 : ∀ xs G H2, P xs → Grow F H G H2 → Pv xs G 0 σ H2)
    (hs : ∀ xs G i x v σ' H' H2, P xs → Ex F G → xs[i]? = some x → R G v x → Pv xs G i σ' H' → Ex H' H2 → ts { D with nx := Pv xs G (i + 1), ct := Pv xs G (i + 1), bk := D.nx } ((σ'.set j (some (.int (i : Nat)))).set l (some v)) H2) (hd : ∀ xs G σ' H', P xs → Ex F G → Pv xs G xs.length σ' H' → D.nx σ' H') :
    tFor (iEnum K (tCons te tNil)) (gPair K j l) ts D σ H := h H e _ fun ys v G H2 px gr r => by
  obtain ⟨p, vs, rfl, hl, r⟩ := r
  have el := seq_len r
  refine ⟨p, vs, rfl, ex_l gr.sub hl, fun i m σ' H' => m = vs.length - i ∧ i ≤ vs.length ∧ Pv ys G i σ' H', ⟨_, rfl, Nat.zero_le _, h0 ys G H2 px gr⟩, ?_⟩
  rintro i m σ' H' ⟨rfl, hi, q⟩
  have hl' := ex_l (hP ys G i σ' H' q) hl
  by_cases hlt : i < vs.length
  · refine .inr ⟨⟨vs, vs[i], hl', by simp [hlt]⟩, Pv ys G (i + 1), fun σ2 H3 q2 => ⟨vs.length - (i + 1), by omega, rfl, hlt, q2⟩, fun x H3 y => ?_⟩
    obtain ⟨B, w, rfl, nB, rfl, hw⟩ := y
    obtain ⟨x, hx, rx⟩ := seq_getv r (hw vs hl')
    exact g_pair (SqT.of upd_same) (hs ys G i x w σ' H' _ px gr.fz hx rx q (Ex.new nB))
  · have ei : i = vs.length := by omega
    subst ei
    exact .inl ⟨⟨vs, hl', Nat.le_refl _⟩, hd ys G σ' H' px gr.fz (by rw [← el]; exact q)⟩
/-! ### comprehensions -/
/-- what holds between the turns: the new list at B, what it holds -/
def Cv (S : Rp U) (F H G : Hp) (B : Addr) (ys : List U → Prop) (H' : Hp) : Prop := ∃ Gi vs acc, Grow F H Gi H' ∧ Ex G Gi ∧ Gi B = none ∧ H' B = some (.lst vs) ∧ rSeq S Gi vs acc ∧ ys acc
theorem cv_start {B : Addr} {ys : List U → Prop} (gr : Grow F H G H2) (n : H2 B = none) (h : ys []) : Cv S F H G B ys (upd H2 B (.lst [])) := by
  obtain ⟨n1, n2⟩ := gr.free n
  exact ⟨G, [], [], gr.wr n2 n1, Ex.refl G, n2, upd_same, .nil, h⟩
theorem cv_turn [Mono S] {B : Addr} {ys : List U → Prop} {yn : List U → Prop} {b : Bool} {Pe : U → Prop} {H' : Hp} {σ2 : L2.St} (n : H B = none) (p : Cv S F H G B ys H') (hz : ∀ acc, ys acc → acc.length < 100000) (ht : EvT t σ2 G b) (he : b = true → EvP S Pe te σ2 G)
    (hy : b = true → ∀ acc y, ys acc → Pe y → yn (acc ++ [y])) (hn : b = false → ∀ acc, ys acc → yn acc) :
    t σ2 H' fun b H3 => if b = true then te σ2 H3 fun y H4 => ∃ acc, H4 B = some (.lst acc) ∧ acc.length < sizeLine ∧ Cv S F H G B yn (upd H4 B (.lst (acc ++ [y]))) else Cv S F H G B yn H3 := by
  obtain ⟨Gi, vs, acc, gr, eg, gb, hb, r, ya⟩ := p
  refine ht H' (eg.trans gr.sub) _ fun H3 e3 => ?_
  have gr3 := gr.ex e3
  cases hb2 : b with
  | true =>
    rw [if_pos rfl]
    refine (he hb2).mono eg H3 gr3.sub _ fun y v G4 H4 py g4 ry => ?_
    have hb4 : H4 B = some (.lst vs) := g4.act B _ (e3 B _ hb)
    have n4 : G4 B = none := g4.gone gb (e3 B _ hb)
    refine ⟨vs, hb4, sz_lt (by rw [seq_len r]; exact hz acc ya), G4, vs ++ [v], acc ++ [y], (gr3.trans g4).wr n4 n, eg.trans g4.fz, n4, upd_same, seq_app ry (seq_mono g4.fz r), hy hb2 acc y ya py⟩
  | false =>
    rw [if_neg Bool.false_ne_true]
    exact ⟨Gi, vs, acc, gr3, eg, gb, e3 B _ hb, r, hn hb2 acc ya⟩
/-- what a comprehension over xs under f holds, element by element -/
def Made (f : T → Bool) (gp : T → U → Prop) (xs : List T) (ys : List U) : Prop := Paired (fun y x => gp x y) ys (xs.filter f)
theorem made_map {f : T → Bool} {fn : T → U} {xs : List T} {ys : List U} (h : Made f (fun x y => y = fn x) xs ys) : ys = (xs.filter f).map fn := by
  unfold Made at h
  generalize xs.filter f = zs at h
  induction h with
  | nil => rfl
  | cons a _ ih => rw [List.map_cons, a, ih]
theorem made_len {f : T → Bool} {gp : T → U → Prop} {xs : List T} {ys : List U} (h : Made f gp xs ys) : ys.length ≤ xs.length := by
  unfold Made at h
  have h1 := List.length_filter_le f xs
  have h2 : ys.length = (xs.filter f).length := by
    generalize xs.filter f = zs at h
    induction h with
    | nil => rfl
    | cons _ _ ih => rw [List.length_cons, List.length_cons, ih]
  omega
theorem made_yes {f : T → Bool} {gp : T → U → Prop} {xs : List T} {i : Nat} {x : T} {ys : List U} {y : U} (hx : xs[i]? = some x) (hf : f x = true) (h : Made f gp (xs.take i) ys) (hy : gp x y) : Made f gp (xs.take (i + 1)) (ys ++ [y]) := by
  unfold Made at h ⊢
  rw [List.take_add_one, hx]
  show Paired _ _ ((xs.take i ++ [x]).filter f)
  rw [List.filter_append, List.filter_cons, if_pos hf]
  show Paired _ _ (_ ++ [x])
  generalize (xs.take i).filter f = zs at h
  clear hx
  induction h with
  | nil => exact .cons hy .nil
  | cons a _ ih => exact .cons a ih
theorem made_no {f : T → Bool} {gp : T → U → Prop} {xs : List T} {i : Nat} {x : T} {ys : List U} (hx : xs[i]? = some x) (hf : f x = false) (h : Made f gp (xs.take i) ys) : Made f gp (xs.take (i + 1)) ys := by
  unfold Made at h ⊢
  rw [List.take_add_one, hx]
  show Paired _ _ ((xs.take i ++ [x]).filter f)
  rw [List.filter_append, List.filter_cons, if_neg (by rw [hf]; decide)]
  show Paired _ _ (_ ++ [])
  rw [List.append_nil]
  exact h
/-- [e for x in xs if t], xs a list -/
theorem evn_lcL [Mono S] {PL : List T → Prop} {j : Nat} {vs : List Nat} (f : T → Bool) (gp : T → U → Prop) (h : EvP (rLst K R) PL tl σ F) (hz : ∀ xs, PL xs → xs.length < 100000) (hw : ∀ v, wipe ((wipe σ vs).set j (some v)) vs = wipe σ vs)
    (ht : ∀ xs x v G, PL xs → x ∈ xs → Ex F G → R G v x → EvT t ((wipe σ vs).set j (some v)) G (f x)) (he : ∀ xs x v G, PL xs → x ∈ xs → f x = true → Ex F G → R G v x → EvP S (gp x) te ((wipe σ vs).set j (some v)) G) :
    EvN S (fun ys => ∃ xs, PL xs ∧ Made f gp xs ys) (tLc (iList K tl) (gName j) t te vs) σ F := fun H e Q q => h H e _ fun xs v G H2 px gr r => by
  obtain ⟨p, ws, rfl, hl, r⟩ := r
  have el := seq_len r
  refine ⟨p, rfl, ⟨ws, ex_l gr.sub hl⟩, fun B nB => ?_⟩
  have nH := (gr.free nB).1
  refine lc_list (xs := ws) (fun i H' => Cv S F H G B (Made f gp (xs.take i)) H') (cv_start gr nB (by rw [List.take_zero]; exact .nil)) (fun i H' _ c => ?_) (fun i w H' hw2 c => ?_) (fun H' c => ?_)
  · obtain ⟨Gi, _, _, g1, e1, _⟩ := c
    exact ex_l (e1.trans g1.sub) hl
  · obtain ⟨x, hx, rx⟩ := seq_getv r hw2
    have hm := List.mem_of_getElem? hx
    have hlt : i < xs.length := (List.getElem?_eq_some_iff.mp hx).1
    have hz1 := hz xs px
    exact ⟨hw _, cv_turn nH c (fun acc ya => by have := made_len ya; rw [List.length_take] at this; omega) (ht xs x w G px hm gr.fz rx) (fun hf => he xs x w G px hm hf gr.fz rx) (fun hf acc y ya py => made_yes hx hf ya py) (fun hf acc ya => made_no hx hf ya)⟩
  · obtain ⟨Gi, us, acc, g1, e1, gb, hb, r1, ya⟩ := c
    rw [el, List.take_length] at ya
    exact q acc B us Gi H' ⟨xs, px, ya⟩ g1 gb nH hb r1
theorem evn_lcT [Mono S] {PL : List T → Prop} {j : Nat} {vs : List Nat} (f : T → Bool) (gp : T → U → Prop) (h : EvP (rTup K R) PL tl σ F) (hz : ∀ xs, PL xs → xs.length < 100000) (hw : ∀ v, wipe ((wipe σ vs).set j (some v)) vs = wipe σ vs)
    (ht : ∀ xs x v G, PL xs → x ∈ xs → Ex F G → R G v x → EvT t ((wipe σ vs).set j (some v)) G (f x)) (he : ∀ xs x v G, PL xs → x ∈ xs → f x = true → Ex F G → R G v x → EvP S (gp x) te ((wipe σ vs).set j (some v)) G) :
    EvN S (fun ys => ∃ xs, PL xs ∧ Made f gp xs ys) (tLc (iTup K tl) (gName j) t te vs) σ F := fun H e Q q => h H e _ fun xs v G H2 px gr r => by
  obtain ⟨p, ws, rfl, hl, r⟩ := r
  have el := seq_len r
  refine ⟨p, rfl, ⟨ws, ex_t gr.sub hl⟩, fun B nB => ?_⟩
  have nH := (gr.free nB).1
  refine lc_tup (xs := ws) (fun i H' => Cv S F H G B (Made f gp (xs.take i)) H') (cv_start gr nB (by rw [List.take_zero]; exact .nil)) (fun i H' _ c => ?_) (fun i w H' hw2 c => ?_) (fun H' c => ?_)
  · obtain ⟨Gi, _, _, g1, e1, _⟩ := c
    exact ex_t (e1.trans g1.sub) hl
  · obtain ⟨x, hx, rx⟩ := seq_getv r hw2
    have hm := List.mem_of_getElem? hx
    have hlt : i < xs.length := (List.getElem?_eq_some_iff.mp hx).1
    have hz1 := hz xs px
    exact ⟨hw _, cv_turn nH c (fun acc ya => by have := made_len ya; rw [List.length_take] at this; omega) (ht xs x w G px hm gr.fz rx) (fun hf => he xs x w G px hm hf gr.fz rx) (fun hf acc y ya py => made_yes hx hf ya py) (fun hf acc ya => made_no hx hf ya)⟩
  · obtain ⟨Gi, us, acc, g1, e1, gb, hb, r1, ya⟩ := c
    rw [el, List.take_length] at ya
    exact q acc B us Gi H' ⟨xs, px, ya⟩ g1 gb nH hb r1
/-- .. xs a list of pairs, told by two names -/
theorem evn_lcLP [Mono S] {T1 T2 : Type} {R1 : Rp T1} {R2 : Rp T2} {PL : List (T1 × T2) → Prop} {j l : Nat} {vs : List Nat} (f : T1 × T2 → Bool) (gp : T1 × T2 → U → Prop) (h : EvP (rLst K (rPr K R1 R2)) PL tl σ F) (hz : ∀ xs, PL xs → xs.length < 100000) (hw : ∀ v w, wipe (((wipe σ vs).set j (some v)).set l (some w)) vs = wipe σ vs)
    (ht : ∀ xs x v w G, PL xs → x ∈ xs → Ex F G → R1 G v x.1 → R2 G w x.2 → EvT t (((wipe σ vs).set j (some v)).set l (some w)) G (f x)) (he : ∀ xs x v w G, PL xs → x ∈ xs → f x = true → Ex F G → R1 G v x.1 → R2 G w x.2 → EvP S (gp x) te (((wipe σ vs).set j (some v)).set l (some w)) G) :
    EvN S (fun ys => ∃ xs, PL xs ∧ Made f gp xs ys) (tLc (iList K tl) (gPair K j l) t te vs) σ F := fun H e Q q => h H e _ fun xs v G H2 px gr r => by
  obtain ⟨p, ws, rfl, hl, r⟩ := r
  have el := seq_len r
  refine ⟨p, rfl, ⟨ws, ex_l gr.sub hl⟩, fun B nB => ?_⟩
  have nH := (gr.free nB).1
  refine lc_list (xs := ws) (fun i H' => Cv S F H G B (Made f gp (xs.take i)) H') (cv_start gr nB (by rw [List.take_zero]; exact .nil)) (fun i H' _ c => ?_) (fun i w H' hw2 c => ?_) (fun H' c => ?_)
  · obtain ⟨Gi, _, _, g1, e1, _⟩ := c
    exact ex_l (e1.trans g1.sub) hl
  · obtain ⟨x, hx, rx⟩ := seq_getv r hw2
    obtain ⟨q0, a, b, rfl, hq, ra, rb⟩ := rx
    have hm := List.mem_of_getElem? hx
    have hlt : i < xs.length := (List.getElem?_eq_some_iff.mp hx).1
    have hz1 := hz xs px
    have c' := c
    obtain ⟨Gi, _, _, g1, e1, _⟩ := c'
    refine g_pair (ex_t (e1.trans g1.sub) hq) ⟨hw _ _, ?_⟩
    exact cv_turn nH c (fun acc ya => by have := made_len ya; rw [List.length_take] at this; omega) (ht xs x a b G px hm gr.fz ra rb) (fun hf => he xs x a b G px hm hf gr.fz ra rb) (fun hf acc y ya py => made_yes hx hf ya py) (fun hf acc ya => made_no hx hf ya)
  · obtain ⟨Gi, us, acc, g1, e1, gb, hb, r1, ya⟩ := c
    rw [el, List.take_length] at ya
    exact q acc B us Gi H' ⟨xs, px, ya⟩ g1 gb nH hb r1
/-- .. xs a tuple of pairs -/
theorem evn_lcTP [Mono S] {T1 T2 : Type} {R1 : Rp T1} {R2 : Rp T2} {PL : List (T1 × T2) → Prop} {j l : Nat} {vs : List Nat} (f : T1 × T2 → Bool) (gp : T1 × T2 → U → Prop) (h : EvP (rTup K (rPr K R1 R2)) PL tl σ F) (hz : ∀ xs, PL xs → xs.length < 100000) (hw : ∀ v w, wipe (((wipe σ vs).set j (some v)).set l (some w)) vs = wipe σ vs)
    (ht : ∀ xs x v w G, PL xs → x ∈ xs → Ex F G → R1 G v x.1 → R2 G w x.2 → EvT t (((wipe σ vs).set j (some v)).set l (some w)) G (f x)) (he : ∀ xs x v w G, PL xs → x ∈ xs → f x = true → Ex F G → R1 G v x.1 → R2 G w x.2 → EvP S (gp x) te (((wipe σ vs).set j (some v)).set l (some w)) G) :
    EvN S (fun ys => ∃ xs, PL xs ∧ Made f gp xs ys) (tLc (iTup K tl) (gPair K j l) t te vs) σ F := fun H e Q q => h H e _ fun xs v G H2 px gr r => by
  obtain ⟨p, ws, rfl, hl, r⟩ := r
  have el := seq_len r
  refine ⟨p, rfl, ⟨ws, ex_t gr.sub hl⟩, fun B nB => ?_⟩
  have nH := (gr.free nB).1
  refine lc_tup (xs := ws) (fun i H' => Cv S F H G B (Made f gp (xs.take i)) H') (cv_start gr nB (by rw [List.take_zero]; exact .nil)) (fun i H' _ c => ?_) (fun i w H' hw2 c => ?_) (fun H' c => ?_)
  · obtain ⟨Gi, _, _, g1, e1, _⟩ := c
    exact ex_t (e1.trans g1.sub) hl
  · obtain ⟨x, hx, rx⟩ := seq_getv r hw2
    obtain ⟨q0, a, b, rfl, hq, ra, rb⟩ := rx
    have hm := List.mem_of_getElem? hx
    have hlt : i < xs.length := (List.getElem?_eq_some_iff.mp hx).1
    have hz1 := hz xs px
    have c' := c
    obtain ⟨Gi, _, _, g1, e1, _⟩ := c'
    refine g_pair (ex_t (e1.trans g1.sub) hq) ⟨hw _ _, ?_⟩
    exact cv_turn nH c (fun acc ya => by have := made_len ya; rw [List.length_take] at this; omega) (ht xs x a b G px hm gr.fz ra rb) (fun hf => he xs x a b G px hm hf gr.fz ra rb) (fun hf acc y ya py => made_yes hx hf ya py) (fun hf acc ya => made_no hx hf ya)
  · obtain ⟨Gi, us, acc, g1, e1, gb, hb, r1, ya⟩ := c
    rw [el, List.take_length] at ya
    exact q acc B us Gi H' ⟨xs, px, ya⟩ g1 gb nH hb r1
theorem rng_get {n i : Nat} (h : i < n) : (List.range n)[i]? = some i := by
  rw [List.getElem?_range h]
/-- .. over range(n) -/
theorem evn_lcR [Mono S] {n : Nat} {j : Nat} {vs : List Nat} (f : Nat → Bool) (gp : Nat → U → Prop) (h : Ev tl σ F (.int (n : Int))) (hz : n < 100000) (hw : ∀ v, wipe ((wipe σ vs).set j (some v)) vs = wipe σ vs)
    (ht : ∀ i G, i < n → Ex F G → EvT t ((wipe σ vs).set j (some (.int (i : Int)))) G (f i)) (he : ∀ i G, i < n → f i = true → Ex F G → EvP S (gp i) te ((wipe σ vs).set j (some (.int (i : Int)))) G) :
    EvN S (Made f gp (List.range n)) (tLc (iRng1 (tCons tl tNil)) (gName j) t te vs) σ F := fun H e Q q => h H e _ fun H2 e2 => by
  have gr := Grow.of e e2
  refine ⟨(n : Int), rfl, by omega, by omega, fun B nB => ?_⟩
  have nH := (gr.free nB).1
  refine lc_range (lo := 0) (n := (n : Int).toNat) (fun i H' => Cv S F H F B (Made f gp ((List.range n).take i)) H') (cv_start gr nB (by rw [List.take_zero]; exact .nil)) (fun i H' hi c => ?_) (fun H' c => ?_)
  · have hi2 : i < n := by omega
    have e0 : (0 : Int) + (i : Int) = (i : Int) := Int.zero_add _
    show wipe ((wipe σ vs).set j (some (.int ((0 : Int) + (i : Int))))) vs = wipe σ vs ∧ t ((wipe σ vs).set j (some (.int ((0 : Int) + (i : Int))))) H' _
    rw [e0]
    exact ⟨hw _, cv_turn nH c (fun acc ya => by have := made_len ya; rw [List.length_take, List.length_range] at this; omega) (ht i F hi2 (Ex.refl F)) (fun hf => he i F hi2 hf (Ex.refl F)) (fun hf acc y ya py => made_yes (rng_get hi2) hf ya py) (fun hf acc ya => made_no (rng_get hi2) hf ya)⟩
  · obtain ⟨Gi, us, acc, g1, e1, gb, hb, r1, ya⟩ := c
    rw [Int.toNat_natCast, List.take_of_length_le (by rw [List.length_range] <;> omega)] at ya
    exact q acc B us Gi H' ya g1 gb nH hb r1
theorem zip_get {xs : List T} {ys : List U} {i : Nat} {x : T} {y : U} (h1 : xs[i]? = some x) (h2 : ys[i]? = some y) : (xs.zip ys)[i]? = some (x, y) := by
  rw [List.getElem?_zip_eq_some]
  exact ⟨h1, h2⟩
/-- .. over zip of two tuples, of one length -/
theorem evn_lcZ {V2 : Type} {S2 : Rp V2} [Mono S2] [Mono R] [Mono S] {xs : List T} {ys : List U} {j l : Nat} {vs : List Nat} (f : T × U → Bool) (gp : T × U → V2 → Prop) (h1 : EvR (rTup K R) ta σ F xs) (h2 : EvR (rTup K S) tb σ F ys) (hz : xs.length < 100000) (hw : ∀ v w, wipe (((wipe σ vs).set j (some v)).set l (some w)) vs = wipe σ vs)
    (ht : ∀ x v w G, x ∈ xs.zip ys → Ex F G → R G v x.1 → S G w x.2 → EvT t (((wipe σ vs).set j (some v)).set l (some w)) G (f x)) (he : ∀ x v w G, x ∈ xs.zip ys → f x = true → Ex F G → R G v x.1 → S G w x.2 → EvP S2 (gp x) te (((wipe σ vs).set j (some v)).set l (some w)) G) :
    EvN S2 (Made f gp (xs.zip ys)) (tLc (iZipA K (tCons ta (tCons tb tNil))) (gPair K j l) t te vs) σ F := fun H e Q q => h1 H e _ fun xs' v G1 H1 px gr1 r1 => h2.mono gr1.fz H1 gr1.sub _ fun ys' w G H2 py gr2 r2 => by
  subst px py
  have gr := gr1.trans gr2
  obtain ⟨p1, v1, rfl, hl1, r1⟩ := r1
  obtain ⟨p2, v2, rfl, hl2, r2⟩ := r2
  have el1 := seq_len r1
  have el2 := seq_len r2
  have r1 := seq_mono gr2.fz r1
  have hl1 := ex_t gr2.fz hl1
  refine ⟨p1, p2, v1, v2, rfl, .inr ⟨ex_t gr.sub hl1, ex_t gr.sub hl2, fun B nB => ?_⟩⟩
  have nH := (gr.free nB).1
  have hlen : (xs'.zip ys').length = min v1.length v2.length := by rw [List.length_zip, el1, el2]
  refine ⟨fun i m H' => m = (xs'.zip ys').length - i ∧ i ≤ (xs'.zip ys').length ∧ Cv S2 F H G B (Made f gp ((xs'.zip ys').take i)) H', ⟨_, rfl, Nat.zero_le _, cv_start gr nB (by rw [List.take_zero]; exact .nil)⟩, ?_⟩
  rintro i m H' ⟨rfl, hi, c⟩
  have c' := c
  obtain ⟨Gi, us, acc, g1, e1, gb, hb, r3, ya⟩ := c'
  have s1 := ex_t (e1.trans g1.sub) hl1
  have s2 := ex_t (e1.trans g1.sub) hl2
  by_cases hlt : i < (xs'.zip ys').length
  · have hi1 : i < v1.length := by omega
    have hi2 : i < v2.length := by omega
    refine .inr ⟨⟨v1, v2, v1[i], v2[i], s1, s2, by simp [hi1], by simp [hi2]⟩, Cv S2 F H G B (Made f gp ((xs'.zip ys').take (i + 1))), fun H3 c3 => ⟨(xs'.zip ys').length - (i + 1), by omega, rfl, hlt, c3⟩, fun x H3 y => ?_⟩
    obtain ⟨A, w1, w2, rfl, nA, rfl, k1, k2⟩ := y
    obtain ⟨x1, hx1, rx1⟩ := seq_getv r1 (k1 _ s1)
    obtain ⟨x2, hx2, rx2⟩ := seq_getv r2 (k2 _ s2)
    have hx := zip_get hx1 hx2
    have hm := List.mem_of_getElem? hx
    refine g_pair (SqT.of upd_same) ⟨hw _ _, ?_⟩
    have nB2 : A ≠ B := fun z => by subst z; rw [nA] at hb; cases hb
    have c2 : Cv S2 F H G B (Made f gp ((xs'.zip ys').take i)) (upd H' A (.tup [w1, w2])) := ⟨Gi, us, acc, g1.ex (Ex.new nA), e1, gb, by rw [upd_ne nB2.symm]; exact hb, r3, ya⟩
    exact cv_turn nH c2 (fun acc ya => by have := made_len ya; rw [List.length_take] at this; rw [List.length_zip] at hlt; omega) (ht _ w1 w2 G hm gr.fz rx1 rx2) (fun hf => he _ w1 w2 G hm hf gr.fz rx1 rx2) (fun hf acc y ya py => made_yes hx hf ya py) (fun hf acc ya => made_no hx hf ya)
  · have ei : i = (xs'.zip ys').length := by omega
    rw [ei, List.take_length] at ya
    have hm : v1.length ≤ i ∨ v2.length ≤ i := by omega
    exact .inl ⟨⟨v1, v2, s1, s2, hm⟩, q acc B us Gi H' ya g1 gb nH hb r3⟩
end
end Tr
/-! small readings -/
namespace Tr
open PySem PySem.Spec PyProof.Rows L2 Evl RZ
/-- the built-in names that the text does not hide -/
structure Bi (mg : Str → Option Value) : Prop where
  isinstance : mg "isinstance" = none
  bool_ : mg "bool" = none
  int_ : mg "int" = none
  tuple_ : mg "tuple" = none
  list_ : mg "list" = none
  str_ : mg "str" = none
  dict_ : mg "dict" = none
  set_ : mg "set" = none
  len : mg "len" = none
  all : mg "all" = none
  zip : mg "zip" = none
  range : mg "range" = none
  sorted : mg "sorted" = none
  enumerate : mg "enumerate" = none
  min : mg "min" = none
  max : mg "max" = none
  sum : mg "sum" = none
  abs : mg "abs" = none
structure Cs (mg : Str → Option Value) : Prop where
  MOST_FIELDS : ∃ u, mg "MOST_FIELDS" = some u ∧ RelV (.int 60) u
  MOST_BREADTH : ∃ u, mg "MOST_BREADTH" = some u ∧ RelV (.int 10) u
section
variable {K : PySem.W.Frag} {σ : L2.St} {F F' H G H2 : Hp} {ta tb tc te tx tl : TE} {t u : TT} {T U W : Type} {R : Rp T} {S : Rp U} {P : T → Prop}
theorem tyx_tup {p : Addr} {xs : List V} (h : SqT K F p xs) : TyX K F (.ref p) (.type "tuple") := by
  rcases h with (h | ⟨o, h⟩) | ⟨o, its, n, h1, h2, _⟩
  · exact .base (.tup h)
  · exact .fTuple h
  · exact .kTuple h1 h2
theorem tyx_lst {p : Addr} {xs : List V} (h : SqL K F p xs) : TyX K F (.ref p) (.type "list") := by
  rcases h with (h | ⟨o, h⟩) | ⟨o, its, n, h1, h2, _⟩
  · exact .base (.lst h)
  · exact .base (.frz h)
  · exact .kList h1 h2
theorem rc_isi {x : V} {a b : String} {r : Bool} (ty : ∀ H, Ex F H → TyX K H x (.type a)) (h : kitB a b = some r) : RC (rIsi K) [x, .ty b] F (.bl r) := fun H e Q q =>
  ⟨x, .ty b, .type a, .type b, r, rfl, .ty b, ty H e, kit_ty h, q H (Ex.refl H)⟩
theorem rc_isi_int {i : Int} {b : String} {r : Bool} (h : kitB "int" b = some r) : RC (rIsi K) [.int i, .ty b] F (.bl r) := rc_isi (fun _ _ => .base (.int i)) h
theorem rc_isi_tup {p : Addr} {xs : List V} {b : String} {r : Bool} (hp : SqT K F p xs) (h : kitB "tuple" b = some r) : RC (rIsi K) [.ref p, .ty b] F (.bl r) := rc_isi (fun _ e => tyx_tup (ex_t e hp)) h
theorem rc_isi_lst {p : Addr} {xs : List V} {b : String} {r : Bool} (hp : SqL K F p xs) (h : kitB "list" b = some r) : RC (rIsi K) [.ref p, .ty b] F (.bl r) := rc_isi (fun _ e => tyx_lst (ex_l e hp)) h
theorem rc_len {p : Addr} {xs : List V} (h : SqL K F p xs ∨ SqT K F p xs) : RC (rLenS K) [.ref p] F (.int (xs.length : Int)) := fun H e Q q =>
  ⟨p, xs, rfl, h.elim (fun h => .inl (ex_l e h)) (fun h => .inr (ex_t e h)), q H (Ex.refl H)⟩
theorem ev_lenL {xs : List T} (h : EvR (rLst K R) te σ F xs) : Ev (tCB (rLenS K) (tCons te tNil)) σ F (.int (xs.length : Int)) := ev_cb1 h fun ys v G _ e r => by
  subst e
  obtain ⟨p, vs, rfl, hl, r⟩ := r
  rw [← seq_len r]
  exact rc_len (.inl hl)
theorem ev_lenT {xs : List T} (h : EvR (rTup K R) te σ F xs) : Ev (tCB (rLenS K) (tCons te tNil)) σ F (.int (xs.length : Int)) := ev_cb1 h fun ys v G _ e r => by
  subst e
  obtain ⟨p, vs, rfl, hl, r⟩ := r
  rw [← seq_len r]
  exact rc_len (.inr hl)
theorem ev_lenPr {x : T × U} (h : EvR (rPr K R S) te σ F x) : Ev (tCB (rLenS K) (tCons te tNil)) σ F (.int 2) := ev_cb1 h fun y v G _ e r => by
  subst e
  obtain ⟨p, a, b, rfl, hl, r⟩ := r
  exact rc_len (xs := [a, b]) (.inr hl)
/-- a value that a name holds -/
theorem ev_name {i : Nat} {v : V} (h : σ[i]? = some (some v)) : Ev (tVar i) σ F v := ev_var h
theorem rc_all {bs : List Bool} {p : Addr} (h : SqL K F p (bs.map V.bl)) : RC (rAll K) [.ref p] F (.bl (bs.all id)) := fun H e Q q => ⟨p, bs, rfl, ex_l e h, q H (Ex.refl H)⟩
theorem bls_of {H : Hp} : ∀ {vs : List V} {bs : List Bool}, rSeq rBl H vs bs → vs = bs.map V.bl
  | _, _, .nil => rfl
  | _, _, .cons a t => by
    rw [List.map_cons, ← bls_of t]
    exact congrArg (· :: _) a
/-- all(..) of a list whose items are all true -/
theorem ev_all {PL : List Bool → Prop} (h : EvP (rLst K rBl) PL te σ F) {b : Bool} (hb : ∀ bs, PL bs → bs.all id = b) : Ev (tCB (rAll K) (tCons te tNil)) σ F (.bl b) := ev_cb1 h fun bs v G _ pl r => by
  obtain ⟨p, vs, rfl, hl, r⟩ := r
  rw [bls_of r] at hl
  rw [← hb bs pl]
  exact rc_all hl
theorem rc_sum {ns : List Int} {p : Addr} (h : SqL K F p (ns.map V.int)) : RC (rSum K) [.ref p] F (.int ns.sum) := fun H e Q q => ⟨p, ns, rfl, ex_l e h, q H (Ex.refl H)⟩
theorem ev_sum {ns : List Int} (h : EvR (rLst K rInt) te σ F ns) : Ev (tCB (rSum K) (tCons te tNil)) σ F (.int ns.sum) := ev_cb1 h fun bs v G _ pl r => by
  subst pl
  obtain ⟨p, vs, rfl, hl, r⟩ := r
  rw [ints_of r] at hl
  exact rc_sum hl
theorem et_test2 {r : R2} {b : Bool} (h : Ev (tOp r ta tb) σ F (.bl b)) : EvT (tTest (tOp r ta tb)) σ F b := et_test h
/-- a <= b <= c -/
theorem ev_chainLe {a b c : Int} (ha : Ev ta σ F (.int a)) (hb : Ev tb σ F (.int b)) (hc : Ev tc σ F (.int c)) :
    Ev (tChain (rI0 fun i j => .bl (decide (i ≤ j))) (rI0 fun i j => .bl (decide (i ≤ j))) ta tb tc) σ F (.bl (decide (a ≤ b) && decide (b ≤ c))) := fun H e Q q =>
  ha H e _ fun H1 e1 => hb H1 (e.trans e1) _ fun H2 e2 => ⟨a, b, rfl, rfl, decide (a ≤ b), rfl, by
    by_cases h : a ≤ b
    · rw [if_pos (decide_eq_true h)]
      refine hc H2 ((e.trans e1).trans e2) _ fun H3 e3 => ⟨b, c, rfl, rfl, ?_⟩
      have := q H3 ((e1.trans e2).trans e3)
      rw [decide_eq_true h, Bool.true_and] at this
      exact this
    · rw [if_neg (by rw [decide_eq_false h]; decide)]
      have := q H2 (e1.trans e2)
      rw [decide_eq_false h, Bool.false_and] at this
      exact this⟩
/-- arguments, their reading closed under weaker wants -/
def tMon (t : TA) : TA := fun σ H Q => ∃ Q0 : List V → Hp → Prop, t σ H Q0 ∧ ∀ vs H1, Q0 vs H1 → Q vs H1
theorem pa_mon {X : Cx} {es : List Expr} {t : TA} (h : PA X es t) : PA X es (tMon t) := ⟨fun pos pins s σ H Q I ⟨Q0, h0, w⟩ => thn (h.run pos pins s σ H Q0 I h0) fun us s1 ⟨vs, H1, I1, r, q⟩ => ⟨vs, H1, I1, r, w vs H1 q⟩⟩
/-! ### statements: s_ where the block ends, q_ where more follows -/
section
variable {n b c : L2.St → Hp → Prop} {r : VK} {D : Ends} {tu tw ts u2 : TS} {k1 k2 : Bool} {PX : List T → Prop}
theorem s_next (q : n σ H) : tNext ⟨n, r, b, c⟩ σ H := q
/-- an if whose answer is known -/
theorem s_ifT (h : EvT t σ F true) (e : Ex F H) (k : ∀ H1, Ex H H1 → tu D σ H1) : tIfS t tu tw D σ H := h H e _ fun H1 e1 => by
  rw [if_pos rfl]
  exact k H1 e1
theorem s_ifF (h : EvT t σ F false) (e : Ex F H) (k : ∀ H1, Ex H H1 → tw D σ H1) : tIfS t tu tw D σ H := h H e _ fun H1 e1 => by
  rw [if_neg Bool.false_ne_true]
  exact k H1 e1
theorem s_ifB (h : EvT t σ F k1) (e : Ex F H) (h1 : k1 = true → ∀ H1, Ex H H1 → tu D σ H1) (h2 : k1 = false → ∀ H1, Ex H H1 → tw D σ H1) : tIfS t tu tw D σ H := h H e _ fun H1 e1 => by
  cases k1 with
  | true =>
    rw [if_pos rfl]
    exact h1 rfl H1 e1
  | false =>
    rw [if_neg Bool.false_ne_true]
    exact h2 rfl H1 e1
theorem s_skip (h : EvT t σ F false) (e : Ex F H) (k : ∀ H1, Ex H H1 → n σ H1) : tIfS t tu tNext ⟨n, r, b, c⟩ σ H := s_ifF h e k
theorem q_skip (h : EvT t σ F false) (e : Ex F H) (k : ∀ H1, Ex H H1 → u2 D σ H1) : tSeq (tIfS t tu tNext) u2 D σ H := s_ifF h e k
theorem q_ifT (h : EvT t σ F true) (e : Ex F H) (k : ∀ H1, Ex H H1 → tu ⟨u2 D, D.rt, D.bk, D.ct⟩ σ H1) : tSeq (tIfS t tu tw) u2 D σ H := s_ifT h e k
theorem q_ifB (h : EvT t σ F k1) (e : Ex F H) (h1 : k1 = true → ∀ H1, Ex H H1 → tu ⟨u2 D, D.rt, D.bk, D.ct⟩ σ H1) (h2 : k1 = false → ∀ H1, Ex H H1 → tw ⟨u2 D, D.rt, D.bk, D.ct⟩ σ H1) : tSeq (tIfS t tu tw) u2 D σ H := s_ifB h e h1 h2
theorem s_set {i : Nat} (h : EvP R P te σ F) (e : Ex F H) (k : ∀ x v G H2, P x → Grow F H G H2 → R G v x → n (σ.set i (some v)) H2) : tAsg te (gName i) ⟨n, r, b, c⟩ σ H := h H e _ k
theorem q_set {i : Nat} (h : EvP R P te σ F) (e : Ex F H) (k : ∀ x v G H2, P x → Grow F H G H2 → R G v x → u2 D (σ.set i (some v)) H2) : tSeq (tAsg te (gName i)) u2 D σ H := h H e _ k
theorem s_setV {i : Nat} {v : V} (h : Ev te σ F v) (e : Ex F H) (k : ∀ H2, Ex H H2 → n (σ.set i (some v)) H2) : tAsg te (gName i) ⟨n, r, b, c⟩ σ H := h H e _ k
theorem q_setV {i : Nat} {v : V} (h : Ev te σ F v) (e : Ex F H) (k : ∀ H2, Ex H H2 → u2 D (σ.set i (some v)) H2) : tSeq (tAsg te (gName i)) u2 D σ H := h H e _ k
theorem s_setN {i : Nat} {PL : List T → Prop} (h : EvN R PL te σ F) (e : Ex F H) (k : ∀ xs p vs G H2, PL xs → Grow F H G H2 → G p = none → H p = none → H2 p = some (.lst vs) → rSeq R G vs xs → n (σ.set i (some (.ref p))) H2) : tAsg te (gName i) ⟨n, r, b, c⟩ σ H := h H e _ k
theorem q_setN {i : Nat} {PL : List T → Prop} (h : EvN R PL te σ F) (e : Ex F H) (k : ∀ xs p vs G H2, PL xs → Grow F H G H2 → G p = none → H p = none → H2 p = some (.lst vs) → rSeq R G vs xs → u2 D (σ.set i (some (.ref p))) H2) : tSeq (tAsg te (gName i)) u2 D σ H := h H e _ k
theorem s_augI {i : Nat} {f : Int → Int → Int} {a d : Int} (hx : σ[i]? = some (some (.int a))) (h : Ev te σ F (.int d)) (e : Ex F H) (k : ∀ H1, Ex H H1 → n (σ.set i (some (.int (f a d)))) H1) : tAug i te (ipI f) ⟨n, r, b, c⟩ σ H :=
  ⟨.int a, hx, h H e _ fun H1 e1 => ⟨a, d, rfl, rfl, k H1 e1⟩⟩
theorem q_augI {i : Nat} {f : Int → Int → Int} {a d : Int} (hx : σ[i]? = some (some (.int a))) (h : Ev te σ F (.int d)) (e : Ex F H) (k : ∀ H1, Ex H H1 → u2 D (σ.set i (some (.int (f a d)))) H1) : tSeq (tAug i te (ipI f)) u2 D σ H :=
  ⟨.int a, hx, h H e _ fun H1 e1 => ⟨a, d, rfl, rfl, k H1 e1⟩⟩
/-- l.append(e), l a cell that is written -/
theorem s_append {l : Addr} {ws : List V} (hl : H l = some (.lst ws)) (fl : F l = none) (ha : Ev ta σ H (.ref l)) (h : EvP R P te σ F) (e : Ex F H) (hz : ws.length < 100000) (k : ∀ x v G H2, P x → Grow F H G H2 → G l = none → R G v x → n σ (upd H2 l (.lst (ws ++ [v])))) :
    tDrop (tBM K "list" rAppend ta (tCons te tNil)) ⟨n, r, b, c⟩ σ H := ha H (Ex.refl H) _ fun H1 e1 =>
  ⟨Or.inl ⟨rfl, ws, sq_of (e1 l _ hl)⟩, h H1 (e.trans e1) _ fun x v G H2 px g rx => by
    have g2 : Grow F H G H2 := ⟨e1.trans g.act, g.fz, g.sub, fun a o q => (g.new a o q).elim .inl fun z => .inr (fresh_back e1 z)⟩
    exact ⟨l, ws, v, rfl, rfl, g2.act l _ hl, sz_lt hz, k x v G H2 px g2 (g2.gone fl hl) rx⟩⟩
theorem q_append {l : Addr} {ws : List V} (hl : H l = some (.lst ws)) (fl : F l = none) (ha : Ev ta σ H (.ref l)) (h : EvP R P te σ F) (e : Ex F H) (hz : ws.length < 100000) (k : ∀ x v G H2, P x → Grow F H G H2 → G l = none → R G v x → u2 D σ (upd H2 l (.lst (ws ++ [v])))) :
    tSeq (tDrop (tBM K "list" rAppend ta (tCons te tNil))) u2 D σ H := s_append (b := D.bk) (c := D.ct) (r := D.rt) hl fl ha h e hz k
theorem s_appendV {l : Addr} {ws : List V} {v : V} (hl : H l = some (.lst ws)) (ha : Ev ta σ H (.ref l)) (h : Ev te σ H v) (hz : ws.length < 100000) (k : ∀ H2, Ex H H2 → n σ (upd H2 l (.lst (ws ++ [v])))) :
    tDrop (tBM K "list" rAppend ta (tCons te tNil)) ⟨n, r, b, c⟩ σ H := s_app hl ha h hz k
theorem q_appendV {l : Addr} {ws : List V} {v : V} (hl : H l = some (.lst ws)) (ha : Ev ta σ H (.ref l)) (h : Ev te σ H v) (hz : ws.length < 100000) (k : ∀ H2, Ex H H2 → u2 D σ (upd H2 l (.lst (ws ++ [v])))) :
    tSeq (tDrop (tBM K "list" rAppend ta (tCons te tNil))) u2 D σ H := s_appendV (b := D.bk) (c := D.ct) (r := D.rt) hl ha h hz k
/-- l[i] = e, l a cell that is written -/
theorem s_put {l : Addr} {ws : List V} {j : Nat} (hl : H l = some (.lst ws)) (fl : F l = none) (h : EvP R P te σ F) (ho : Ev ta σ H (.ref l)) (hi : Ev tb σ H (.int (j : Int))) (e : Ex F H) (hj : j < ws.length) (k : ∀ x v G H2, P x → Grow F H G H2 → G l = none → R G v x → n σ (upd H2 l (.lst (ws.set j v)))) :
    tAsg te (gSub ta tb rSetL) ⟨n, r, b, c⟩ σ H := h H e _ fun x v G H2 px g rx => ho H2 g.act _ fun H3 e3 => hi H3 (g.act.trans e3) _ fun H4 e4 => by
  have g2 : Grow F H G H4 := g.ex (e3.trans e4)
  exact ⟨l, ws, (j : Int), j, rfl, rfl, g2.act l _ hl, Evl.ixN_nat hj, k x v G H4 px g2 (g2.gone fl hl) rx⟩
theorem s_putV {l : Addr} {ws : List V} {j : Nat} {v : V} (hl : H l = some (.lst ws)) (h : Ev te σ H v) (ho : Ev ta σ H (.ref l)) (hi : Ev tb σ H (.int (j : Int))) (hj : j < ws.length) (k : ∀ H2, Ex H H2 → n σ (upd H2 l (.lst (ws.set j v)))) :
    tAsg te (gSub ta tb rSetL) ⟨n, r, b, c⟩ σ H := s_setL hl h ho hi hj k
theorem q_putV {l : Addr} {ws : List V} {j : Nat} {v : V} (hl : H l = some (.lst ws)) (h : Ev te σ H v) (ho : Ev ta σ H (.ref l)) (hi : Ev tb σ H (.int (j : Int))) (hj : j < ws.length) (k : ∀ H2, Ex H H2 → u2 D σ (upd H2 l (.lst (ws.set j v)))) :
    tSeq (tAsg te (gSub ta tb rSetL)) u2 D σ H := s_setL (D := ⟨u2 D, D.rt, D.bk, D.ct⟩) hl h ho hi hj k
theorem s_ret (h : EvP R P te σ F) (e : Ex F H) (k : ∀ x v G H2, P x → Grow F H G H2 → R G v x → r v H2) : tRet te ⟨n, r, b, c⟩ σ H := h H e _ k
theorem s_retV {v : V} (h : Ev te σ F v) (e : Ex F H) (k : ∀ H1, Ex H H1 → r v H1) : tRet te ⟨n, r, b, c⟩ σ H := h H e _ k
theorem q_par {i j : Nat} {ta : TA} (h : ta σ H fun vs H1 => ∃ v w, vs = [v, w] ∧ u2 D ((σ.set i (some v)).set j (some w)) H1) : tSeq (tPar i j ta) u2 D σ H := h
theorem s_par {i j : Nat} {ta : TA} (h : ta σ H fun vs H1 => ∃ v w, vs = [v, w] ∧ n ((σ.set i (some v)).set j (some w)) H1) : tPar i j ta ⟨n, r, b, c⟩ σ H := h
theorem q_par3 {i j l : Nat} {ta : TA} (h : ta σ H fun vs H1 => ∃ v w x, vs = [v, w, x] ∧ u2 D (((σ.set i (some v)).set j (some w)).set l (some x)) H1) : tSeq (tPar3 i j l ta) u2 D σ H := h
/-- a, b = (e, f) through a tuple -/
theorem q_tup2 {i j : Nat} {ta : TA} (h : ta σ H fun vs H1 => ∃ v w, vs = [v, w] ∧ ∀ p, H1 p = none → u2 D ((σ.set i (some v)).set j (some w)) (upd H1 p (.tup vs))) :
    tSeq (tAsg (tTup (tMon ta)) (gTup K 2 (gCons (gName i) (gCons (gName j) gNil)))) u2 D σ H := ⟨_, h, fun vs H1 ⟨v, w, e, q⟩ => by
  subst e
  exact ⟨by show 2 ≤ sizeLine; decide, fun p hp => ⟨p, _, rfl, SqT.of upd_same, rfl, v, [w], rfl, w, [], rfl, rfl, q p hp⟩⟩⟩
theorem q_tup4 {i j l o : Nat} {ta : TA} (h : ta σ H fun vs H1 => ∃ v w x y, vs = [v, w, x, y] ∧ ∀ p, H1 p = none → u2 D ((((σ.set i (some v)).set j (some w)).set l (some x)).set o (some y)) (upd H1 p (.tup vs))) :
    tSeq (tAsg (tTup (tMon ta)) (gTup K 4 (gCons (gName i) (gCons (gName j) (gCons (gName l) (gCons (gName o) gNil)))))) u2 D σ H := ⟨_, h, fun vs H1 ⟨v, w, x, y, e, q⟩ => by
  subst e
  exact ⟨by show 4 ≤ sizeLine; decide, fun p hp => ⟨p, _, rfl, SqT.of upd_same, rfl, v, [w, x, y], rfl, w, [x, y], rfl, x, [y], rfl, y, [], rfl, rfl, q p hp⟩⟩⟩
/-- while, W a word and what falls -/
theorem q_while (W : Nat → L2.St → Hp → Prop) (m0 : Nat) (h0 : W m0 σ H)
    (hs : ∀ m σ' H', W m σ' H' → ∃ k, EvT t σ' H' k ∧ (k = true → ∀ H1, Ex H' H1 → ∃ N : L2.St → Hp → Prop, (∀ σ2 H2, N σ2 H2 → ∃ m', m' < m ∧ W m' σ2 H2) ∧ ts ⟨N, D.rt, u2 D, N⟩ σ' H1) ∧ (k = false → ∀ H1, Ex H' H1 → u2 D σ' H1)) : tSeq (tWhile t ts) u2 D σ H :=
  Evl.q_while W m0 h0 hs
theorem q_for_lst {g : TG} {xs : List T} (h : EvP (rLst K R) (fun ys => ys = xs) tl σ F) (e : Ex F H) (Pv : Hp → Nat → L2.St → Hp → Prop) (hP : ∀ G i σ H, Pv G i σ H → Ex G H) (h0 : ∀ G H2, Grow F H G H2 → Pv G 0 σ H2)
    (hs : ∀ G i x v σ' H', Ex F G → xs[i]? = some x → R G v x → Pv G i σ' H' → g v σ' H' fun σ2 H2 => ts ⟨Pv G (i + 1), D.rt, u2 D, Pv G (i + 1)⟩ σ2 H2) (hd : ∀ G σ' H', Ex F G → Pv G xs.length σ' H' → u2 D σ' H') :
    tSeq (tFor (iList K tl) g ts) u2 D σ H := for_lst (D := ⟨u2 D, D.rt, D.bk, D.ct⟩) h e Pv hP h0 hs hd
theorem s_for_lst {g : TG} {xs : List T} (h : EvP (rLst K R) (fun ys => ys = xs) tl σ F) (e : Ex F H) (Pv : Hp → Nat → L2.St → Hp → Prop) (hP : ∀ G i σ H, Pv G i σ H → Ex G H) (h0 : ∀ G H2, Grow F H G H2 → Pv G 0 σ H2)
    (hs : ∀ G i x v σ' H', Ex F G → xs[i]? = some x → R G v x → Pv G i σ' H' → g v σ' H' fun σ2 H2 => ts ⟨Pv G (i + 1), r, n, Pv G (i + 1)⟩ σ2 H2) (hd : ∀ G σ' H', Ex F G → Pv G xs.length σ' H' → n σ' H') :
    tFor (iList K tl) g ts ⟨n, r, b, c⟩ σ H := for_lst (D := ⟨n, r, b, c⟩) h e Pv hP h0 hs hd
theorem q_for_tpl {g : TG} {xs : List T} (h : EvP (rTup K R) (fun ys => ys = xs) tl σ F) (e : Ex F H) (Pv : Hp → Nat → L2.St → Hp → Prop) (hP : ∀ G i σ H, Pv G i σ H → Ex G H) (h0 : ∀ G H2, Grow F H G H2 → Pv G 0 σ H2)
    (hs : ∀ G i x v σ' H', Ex F G → xs[i]? = some x → R G v x → Pv G i σ' H' → g v σ' H' fun σ2 H2 => ts ⟨Pv G (i + 1), D.rt, u2 D, Pv G (i + 1)⟩ σ2 H2) (hd : ∀ G σ' H', Ex F G → Pv G xs.length σ' H' → u2 D σ' H') :
    tSeq (tFor (iTup K tl) g ts) u2 D σ H := for_tpl (D := ⟨u2 D, D.rt, D.bk, D.ct⟩) h e Pv hP h0 hs hd
theorem s_for_enu {j l : Nat} (h : EvP (rLst K R) PX te σ F) (e : Ex F H) (Pv : List T → Hp → Nat → L2.St → Hp → Prop) (hP : ∀ xs G i σ H, Pv xs G i σ H → Ex G H) (h0 : ∀ xs G H2, PX xs → Grow F H G H2 → Pv xs G 0 σ H2)
    (hs : ∀ xs G i x v σ' H' H2, PX xs → Ex F G → xs[i]? = some x → R G v x → Pv xs G i σ' H' → Ex H' H2 → ts ⟨Pv xs G (i + 1), r, n, Pv xs G (i + 1)⟩ ((σ'.set j (some (.int (i : Nat)))).set l (some v)) H2) (hd : ∀ xs G σ' H', PX xs → Ex F G → Pv xs G xs.length σ' H' → n σ' H') :
    tFor (iEnum K (tCons te tNil)) (gPair K j l) ts ⟨n, r, b, c⟩ σ H := for_enu (D := ⟨n, r, b, c⟩) h e Pv hP h0 hs hd
/-- over a list that stands in what is frozen, named by a value -/
theorem for_lstV {g : TG} {D : Ends} {v : V} {xs : List T} (h : Ev tl σ H v) (hv : rLst K R G v xs) (Pv : Nat → L2.St → Hp → Prop) (hP : ∀ i σ H, Pv i σ H → Ex G H) (e : Ex G H) (h0 : ∀ H2, Ex H H2 → Pv 0 σ H2)
    (hs : ∀ i x v σ' H', xs[i]? = some x → R G v x → Pv i σ' H' → g v σ' H' fun σ2 H2 => ts { D with nx := Pv (i + 1), ct := Pv (i + 1), bk := D.nx } σ2 H2) (hd : ∀ σ' H', Pv xs.length σ' H' → D.nx σ' H') :
    tFor (iList K tl) g ts D σ H := by
  obtain ⟨p, vs, rfl, hl, r⟩ := hv
  have el := seq_len r
  refine h H (Ex.refl H) _ fun H2 e2 => ⟨p, rfl, ⟨vs, ex_l (e.trans e2) hl⟩, for_list (xs := vs) Pv (h0 H2 e2) (fun i σ' H' _ q => ex_l (hP i σ' H' q) hl) (fun i w σ' H' hw q => ?_) (fun σ' H' q => hd σ' H' (by rw [← el]; exact q))⟩
  obtain ⟨x, hx, rx⟩ := seq_getv r hw
  exact hs i x w σ' H' hx rx q
theorem s_for_lstV {g : TG} {v : V} {xs : List T} (h : Ev tl σ H v) (hv : rLst K R G v xs) (Pv : Nat → L2.St → Hp → Prop) (hP : ∀ i σ H, Pv i σ H → Ex G H) (e : Ex G H) (h0 : ∀ H2, Ex H H2 → Pv 0 σ H2)
    (hs : ∀ i x v σ' H', xs[i]? = some x → R G v x → Pv i σ' H' → g v σ' H' fun σ2 H2 => ts ⟨Pv (i + 1), r, n, Pv (i + 1)⟩ σ2 H2) (hd : ∀ σ' H', Pv xs.length σ' H' → n σ' H') :
    tFor (iList K tl) g ts ⟨n, r, b, c⟩ σ H := for_lstV (D := ⟨n, r, b, c⟩) h hv Pv hP e h0 hs hd
theorem q_for_lstV {g : TG} {v : V} {xs : List T} (h : Ev tl σ H v) (hv : rLst K R G v xs) (Pv : Nat → L2.St → Hp → Prop) (hP : ∀ i σ H, Pv i σ H → Ex G H) (e : Ex G H) (h0 : ∀ H2, Ex H H2 → Pv 0 σ H2)
    (hs : ∀ i x v σ' H', xs[i]? = some x → R G v x → Pv i σ' H' → g v σ' H' fun σ2 H2 => ts ⟨Pv (i + 1), D.rt, u2 D, Pv (i + 1)⟩ σ2 H2) (hd : ∀ σ' H', Pv xs.length σ' H' → u2 D σ' H') :
    tSeq (tFor (iList K tl) g ts) u2 D σ H := for_lstV (D := ⟨u2 D, D.rt, D.bk, D.ct⟩) h hv Pv hP e h0 hs hd
/-- for i in range(n) -/
theorem q_for_rng {m : Nat} {g : TG} (h : Ev te σ F (.int (m : Int))) (hm : m < 100000) (e : Ex F H) (Pv : Nat → L2.St → Hp → Prop) (h0 : ∀ H2, Ex H H2 → Pv 0 σ H2)
    (hs : ∀ i σ' H', i < m → Pv i σ' H' → g (.int (i : Int)) σ' H' fun σ2 H2 => ts ⟨Pv (i + 1), D.rt, u2 D, Pv (i + 1)⟩ σ2 H2) (hd : ∀ σ' H', Pv m σ' H' → u2 D σ' H') :
    tSeq (tFor (iRng1 (tCons te tNil)) g ts) u2 D σ H := h H e _ fun H2 e2 => ⟨(m : Int), rfl, by omega, by omega, by
  refine for_range (lo := 0) (n := (m : Int).toNat) Pv (h0 H2 e2) (fun i σ' H' hi p => ?_) (fun σ' H' p => ?_)
  · rw [Int.zero_add]
    exact hs i σ' H' (by omega) p
  · rw [Int.toNat_natCast] at p
    exact hd σ' H' p⟩
theorem q_drop {v : V} (h : Ev te σ F v) (e : Ex F H) (k : ∀ H1, Ex H H1 → u2 D σ H1) : tSeq (tDrop te) u2 D σ H := h H e _ k
theorem g_name {i : Nat} {v : V} {Q : L2.St → Hp → Prop} (h : Q (σ.set i (some v)) H) : gName i v σ H Q := h
theorem s_raw {i : Nat} (h : te σ H fun v H1 => n (σ.set i (some v)) H1) : tAsg te (gName i) ⟨n, r, b, c⟩ σ H := h
theorem q_raw {i : Nat} (h : te σ H fun v H1 => u2 D (σ.set i (some v)) H1) : tSeq (tAsg te (gName i)) u2 D σ H := h
theorem q_seq (h : ts ⟨u2 D, D.rt, D.bk, D.ct⟩ σ H) : tSeq ts u2 D σ H := h
end
theorem et_or1 (h : EvT t σ F true) : EvT (tOr t u) σ F true := fun H e Q q => h H e _ fun H1 e1 => by
  rw [if_pos rfl]
  exact q H1 e1
theorem et_or0 {b : Bool} (h : EvT t σ F false) (h2 : EvT u σ F b) : EvT (tOr t u) σ F b := et_is (et_or h fun _ => h2) (Bool.false_or b)
theorem et_nT {b : Bool} (h : EvT t σ F b) : EvT (tNot t) σ F (!b) := et_not h
theorem cut1 (xs : List V) : cutV xs (some 1) none = xs.drop 1 := by
  unfold cutV
  rw [show HT.sIx xs.length 0 (some 1) = min 1 xs.length from HT.sIx_nat xs.length 0 1, HT.sIx_none]
  cases xs with
  | nil => rfl
  | cons x r =>
    rw [show min 1 (x :: r).length = 1 by
      rw [List.length_cons]
      omega]
    show (List.take ((x :: r).length - 1) r) = r
    rw [List.length_cons, Nat.add_sub_cancel]
    exact List.take_length
theorem seq_drop {T : Type} {R : V → T → Prop} : ∀ {vs : List V} {xs : List T} (k : Nat), Paired R vs xs → Paired R (vs.drop k) (xs.drop k)
  | _, _, _, .nil => by rw [List.drop_nil, List.drop_nil]; exact .nil
  | _, _, 0, .cons a t => .cons a t
  | _, _, k + 1, .cons _ t => seq_drop k t
/-- xs[1:] of a tuple -/
theorem evr_drop1T [Mono R] {xs : List T} (h : EvR (rTup K R) te σ F xs) : EvR (rTup K R) (tSl (rSlA K) te (tPart (tC (.int 1))) tNoPart) σ F (xs.drop 1) := fun H e Q q => h H e _ fun ys v G H2 px g r => by
  subst px
  obtain ⟨p, vs, rfl, hl, r⟩ := r
  refine ⟨1, rfl, p, vs, rfl, ex_t g.sub hl, fun hw => ?_, fun hw p2 n2 => ?_⟩
  · have h0 : vs = [] := by
      have h1 := hw.1
      rw [show HT.sIx vs.length 0 (some 1) = min 1 vs.length from HT.sIx_nat vs.length 0 1] at h1
      cases vs with
      | nil => rfl
      | cons a t => rw [List.length_cons] at h1; omega
    subst h0
    cases r
    exact q [] _ G H2 rfl g ⟨p, [], rfl, hl, .nil⟩
  · have g2 := (g.ex (Ex.new (o := .tup (cutV vs (some 1) none)) n2)).put (g.free n2).1 upd_same
    refine q _ _ _ _ rfl g2 ⟨p2, _, rfl, SqT.of upd_same, ?_⟩
    rw [cut1]
    exact seq_drop 1 (seq_mono (Ex.new (g.free n2).2) r)
/-- xs[1:] of a list: a new list -/
theorem evn_drop1L [Mono R] {xs : List T} (h : EvR (rLst K R) te σ F xs) : EvN R (fun ys => ys = xs.drop 1) (tSl (rSlL K) te (tPart (tC (.int 1))) tNoPart) σ F := fun H e Q q => h H e _ fun ys v G H2 px g r => by
  subst px
  obtain ⟨p, vs, rfl, hl, r⟩ := r
  refine ⟨1, rfl, p, vs, rfl, ex_l g.sub hl, fun p2 n2 => ?_⟩
  refine q (ys.drop 1) p2 _ G _ rfl (g.ex (Ex.new n2)) (g.free n2).2 (g.free n2).1 upd_same ?_
  rw [cut1]
  exact seq_drop 1 r
/-- the cells at S go over into what is frozen -/
def plus (G H : Hp) (S : List Addr) : Hp := fun a => if a ∈ S then H a else G a
theorem plus_in {G H : Hp} {S : List Addr} {a : Addr} (h : a ∈ S) : plus G H S a = H a := by unfold plus; rw [if_pos h]
theorem plus_out {G H : Hp} {S : List Addr} {a : Addr} (h : a ∉ S) : plus G H S a = G a := by unfold plus; rw [if_neg h]
theorem ex_plus {G H : Hp} {S : List Addr} (h : ∀ a ∈ S, G a = none) : Ex G (plus G H S) := fun a o e => by
  by_cases hm : a ∈ S
  · rw [h a hm] at e; cases e
  · rw [plus_out hm]; exact e
theorem plus_ex {G H : Hp} {S : List Addr} (e : Ex G H) : Ex (plus G H S) H := fun a o h => by
  by_cases hm : a ∈ S
  · rw [plus_in hm] at h; exact h
  · rw [plus_out hm] at h; exact e a o h
theorem Grow.plus {S : List Addr} (g : Grow F H G H2) (h : ∀ a ∈ S, H a = none ∧ G a = none) : Grow F H (plus G H2 S) H2 := ⟨g.act, g.fz.trans (ex_plus fun a m => (h a m).2), plus_ex g.sub, fun a o q => by
  by_cases hm : a ∈ S
  · exact .inr (h a hm).1
  · rw [plus_out hm] at q; exact g.new a o q⟩
theorem yes_of {A B : Hp → Prop} (h : A H) : tYes σ H (fun k H3 => if k = true then A H3 else B H3) := by
  show (if true = true then A H else B H)
  rw [if_pos rfl]
  exact h
/-- [None] * n -/
theorem evn_rep {m : Nat} (h : Ev tb σ F (.int (m : Int))) (hm : m < 100000) : EvN (rOpt rNat) (fun ys => ys = List.replicate m none) (tOp rRep (tLst (tCons (tC .non) tNil)) tb) σ F := fun H e Q q => ⟨by show 1 ≤ sizeLine; decide, fun p hp => h _ (e.trans (Ex.new hp)) _ fun H2 e2 => by
  refine ⟨p, (m : Int), [.non], rfl, rfl, e2 p _ upd_same, by omega, by omega, ?_, fun p2 hp2 => ?_⟩
  · rw [Int.toNat_natCast, List.length_singleton, Nat.one_mul]
    exact sz_of (by omega)
  · have e3 : Ex H H2 := (Ex.new hp).trans e2
    refine q _ p2 _ F _ rfl (Grow.of e (e3.trans (Ex.new hp2))) (fresh_back (e.trans e3) hp2) (fresh_back e3 hp2) upd_same ?_
    rw [Int.toNat_natCast]
    clear hm h e3 e2 q hp2 hp
    induction m with
    | zero => exact .nil
    | succ m ih =>
      rw [List.replicate_succ, List.replicate_succ]
      exact .cons rfl ih⟩
theorem evn_one {v : V} {x : T} (h : Ev ta σ F v) (r : ∀ G, Ex F G → R G v x) : EvN R (fun ys => ys = [x]) (tLst (tCons ta tNil)) σ F := fun H e Q q => h H e _ fun H2 e2 => ⟨by show 1 ≤ sizeLine; decide, fun p hp => by
  exact q [x] p [v] F _ rfl (Grow.of e (e2.trans (Ex.new hp))) (fresh_back (e.trans e2) hp) (fresh_back e2 hp) upd_same (.cons (r F (Ex.refl F)) .nil)⟩
theorem evn_nil : EvN R (fun ys => ys = []) (tLst tNil) σ F := fun H e Q q => ⟨Nat.zero_le _, fun p hp => by
  exact q [] p [] F _ rfl (Grow.of e (Ex.new hp)) (fresh_back e hp) hp upd_same .nil⟩
/-! peeling -/
theorem p_cons {ta : TE} {tr : TA} {Q : List V → Hp → Prop} (h : ta σ H fun x H1 => tr σ H1 fun xs H2 => Q (x :: xs) H2) : tCons ta tr σ H Q := h
theorem p_nil {Q : List V → Hp → Prop} (h : Q [] H) : tNil σ H Q := h
theorem p_cb {r : List V → Hp → VK → Prop} {t : TA} {Q : VK} (h : t σ H fun vs H1 => r vs H1 Q) : tCB r t σ H Q := h
theorem p_call {sp : Sp} {E : XK} {t : TA} {Q : VK} (h : t σ H fun vs H1 => sp (vs ++ []) H1 Q E) : tCall sp [] E t σ H Q := h
theorem p_op {r : R2} {ta tb : TE} {Q : VK} (h : ta σ H fun x H1 => tb σ H1 fun y H2 => r x y H2 Q) : tOp r ta tb σ H Q := h
theorem p_un {r : V → Hp → VK → Prop} {ta : TE} {Q : VK} (h : ta σ H fun x H1 => r x H1 Q) : tUn r ta σ H Q := h
theorem p_var {i : Nat} {v : V} {Q : VK} (hv : σ[i]? = some (some v)) (h : Q v H) : tVar i σ H Q := ⟨v, hv, h⟩
theorem p_test {te : TE} {Q : Bool → Hp → Prop} (h : te σ H fun x H' => ∃ k, x = .bl k ∧ Q k H') : tTest te σ H Q := h
theorem ev_to {v x : V} (h : Ev te σ F v) (e : v = x) : Ev te σ F x := e ▸ h
theorem et_to {a b : Bool} (h : EvT t σ F a) (e : a = b) : EvT t σ F b := e ▸ h
end
end Tr
/-! the rules that speak of the written part, with it said -/
namespace Tr
open PySem PySem.Spec PyProof.Rows L2 Evl RZ
section
variable {X : Cx} (K : PySem.W.Frag)
theorem ix_list' (h : X.K = K := by rfl) : IxR X (rIxL K) := h ▸ ix_list
theorem ix_tup' (h : X.K = K := by rfl) : IxR X (rIxT K) := h ▸ ix_tup
theorem sl_list' (h : X.K = K := by rfl) : SlR X (rSlL K) := h ▸ sl_list
theorem sl_tupA' (h : X.K = K := by rfl) : SlR X (rSlA K) := h ▸ sl_tupA
theorem op_ltT' (hu : X.A.units < cLine) (h : X.K = K := by rfl) : OpR X (compareOp .Lt) (rLtT K) := h ▸ op_ltT hu
theorem op_in_seq' (h : X.K = K := by rfl) : OpR X (compareOp .In) (rIn K false) := h ▸ op_in_seq
theorem op_eqD' (hu : X.A.units + 64 < cLine) (h : X.K = K := by rfl) : OpR X (compareOp .Eq) (rEqD K) := h ▸ op_eqD hu
theorem op_neD' (hu : X.A.units + 64 < cLine) (h : X.K = K := by rfl) : OpR X (compareOp .NotEq) (rNeD K) := h ▸ op_neD hu
theorem op_notInD' (hu : X.A.units + 65 < cLine) (h : X.K = K := by rfl) : OpR X (compareOp .NotIn) (rNotInD K) := h ▸ op_notInD hu
theorem cr_all' (hc : X.calm = true) (h : X.K = K := by rfl) : CallR X (.builtin "all") (rAll K) := h ▸ cr_all hc
theorem cr_sum' (hc : X.calm = true) (h : X.K = K := by rfl) : CallR X (.builtin "sum") (rSum K) := h ▸ cr_sum hc
theorem cr_max' (hc : X.calm = true) (h : X.K = K := by rfl) : CallR X (.builtin "max") (rMax K) := h ▸ cr_max hc
theorem cr_min' (hc : X.calm = true) (h : X.K = K := by rfl) : CallR X (.builtin "min") (rMin K) := h ▸ cr_min hc
theorem cr_sortedI' (h : X.K = K := by rfl) : CallR X (.builtin "sorted") (rSortedI K) := h ▸ cr_sortedI
theorem call_len' (h : X.K = K := by rfl) : CallR X (.builtin "len") (rLenS K) := h ▸ call_len_seq
theorem call_isi' (h : X.K = K := by rfl) : CallR X (.builtin "isinstance") (rIsi K) := h ▸ call_isi
theorem call_isiT' (h : X.K = K := by rfl) : CallR X (.builtin "isinstance") (rIsiT K) := h ▸ call_isiT
theorem call_list' (h : X.K = K := by rfl) : CallR X (.type "list") (rListS K) := h ▸ call_list_of
def rTupS (K : PySem.W.Frag) : List V → Hp → VK → Prop := fun xs H Q => ∃ p ys, xs = [.ref p] ∧ ((SqL K H p ys ∧ ∀ l, H l = none → Q (.ref l) (upd H l (.tup ys))) ∨ (SqT K H p ys ∧ Q (.ref p) H))
theorem call_tuple' (h : X.K = K := by rfl) : CallR X (.type "tuple") (rTupS K) := h ▸ call_tuple_of
theorem mt_lcount' (h : X.K = K := by rfl) : MtR X "list.count" (rCntI K) := h ▸ mt_lcount
section
variable {tg l e e2 : Expr} {es elts : List Expr} {tl te : TE} {ta : TA} {t : TGs} {p pos tpos apos cpos : Pos} {kk n : Nat} {g : TG}
theorem pi_list' (hl : PE X l tl) (h : X.K = K := by rfl) : PI X tg l (iList K tl) := h ▸ pi_list hl
theorem pi_tup' (hl : PE X l tl) (h : X.K = K := by rfl) : PI X tg l (iTup K tl) := h ▸ pi_tup hl
theorem pi_enum' (hg : Gl X "enumerate") (hm : X.mg "enumerate" = none) (ha : PA X [e] ta) (hs : starEach [e] X.env = [(false, eval e X.env)] := by rfl) (h : X.K = K := by rfl) : PI X (.Tuple elts kk tpos) (.Call (.Name "enumerate" p) [e] [] pos) (iEnum K ta) := h ▸ pi_enum hg hm ha hs
theorem pi_zip' (hg : Gl X "zip") (hm : X.mg "zip" = none) (ha : PA X [e, e2] ta) (hs : starEach [e, e2] X.env = (false, eval e X.env) :: starEach [e2] X.env := by rfl) (hpl : (backTo pos (starEach [e2] X.env)).any (·.1) = false := by rfl) (h : X.K = K := by rfl) :
    PI X (.Tuple elts kk tpos) (.Call (.Name "zip" p) [e, e2] [] pos) (iZipA K ta) := h ▸ pi_zipA hg hm ha hs hpl
theorem pg_tup' {k : Nat} (hc : X.calm = true) (hh : PGs X es t) (hn : (assignEach es X.env).length = n := by rfl) (hst : (assignEach es X.env).findIdx? (·.1) = none := by rfl) (h : X.K = K := by rfl) : PG X (.Tuple es k pos) (gTup K n t) := h ▸ pg_tup hc hh hn hst
theorem pe_bm' {a : TA} {name : Str} {T id : String} {r : V → List V → Hp → VK → Prop} (pa : PlainAttrs T) (slot : Slot T name id) (hty : typeOf (.builtin id) = pure (.type "method_descriptor")) (hm : MtR X id r) (ho : PE X l tl) (ha : PA X (e :: es) a)
    (hbase : attributeBase l name X.env (eval l X.env) = eval l X.env := by rfl)
    (hfew : ((backTo cpos (starEach (e :: es) X.env)).all (fun x => !x.1) && (backToKw cpos (keywordEach [] X.env)).all (fun x => x.1.isSome)
      && decide ((e :: es).length + ([] : List Keyword).length + (if ([] : List Keyword).isEmpty then 0 else 1) < 30)) = true := by rfl)
    (hline : (apos.endLine == cpos.line) = true := by rfl) (hs : starEach (e :: es) X.env = (false, eval e X.env) :: starEach es X.env := by rfl) (hplain : (backTo cpos (starEach es X.env)).any (·.1) = false := by rfl) (h : X.K = K := by rfl) :
    PE X (.Call (.Attribute l name apos) (e :: es) [] cpos) (tBM K T r tl a) := h ▸ pe_bm pa slot hty hm ho ha hbase hfew hline hs hplain
theorem pe_revL' {k : Nat} {p1 p2 p3 : Pos} (he : PE X e te) (h : X.K = K := by rfl) : PE X (.Subscript e (.Slice none none (some (.UnaryOp .USub (.Constant (.int 1) k p1) p2)) p3) pos) (tRevL K te) := h ▸ pe_revL he
end
end
end Tr
/-! data compared -/
namespace Tr
open PySem PySem.Spec PyProof.Rows L2 Evl RZ
class Dat (K : PySem.W.Frag) {T : Type} (R : Rp T) where
  d : T → PyData
  ok : ∀ {H : Hp} {v : V} {x : T}, R H v x → Dp K H v (d x)
  lay : ∀ x : T, (d x).canLay0 = true
  dep : ∀ x : T, (d x).depth ≤ 8
instance {K : PySem.W.Frag} : Dat K rInt := ⟨fun i => .int i, fun {H v x} r => by cases (show v = .int x from r); exact .int x, fun _ => rfl, fun _ => Nat.zero_le _⟩
instance {K : PySem.W.Frag} : Dat K rNat := ⟨fun i => .int (i : Int), fun {H v x} r => by cases (show v = .int (x : Int) from r); exact .int _, fun _ => rfl, fun _ => Nat.zero_le _⟩
section
variable {K : PySem.W.Frag} {σ : L2.St} {F F' H G H2 : Hp} {ta tb tc te tx tl : TE} {t u : TT} {T U W : Type} {R : Rp T} {S : Rp U} {P : T → Prop}
theorem dpall [D : Dat K R] : ∀ {vs : List V} {xs : List T}, rSeq R H vs xs → DpAll K H vs (xs.map D.d)
  | _, _, .nil => .nil
  | _, _, .cons a t => .cons (D.ok a) (dpall t)
theorem lay_all [D : Dat K R] : ∀ xs : List T, PyData.canLayAll0 (xs.map D.d) = true
  | [] => rfl
  | x :: r => by
    show ((D.d x).canLay0 && PyData.canLayAll0 (r.map D.d)) = true
    rw [D.lay x, lay_all r]
    rfl
theorem dep_all [D : Dat K R] : ∀ xs : List T, PyData.depthAll (xs.map D.d) ≤ 8
  | [] => Nat.zero_le _
  | x :: r => by
    show max (D.d x).depth (PyData.depthAll (r.map D.d)) ≤ 8
    have h1 := D.dep x
    have h2 := dep_all r
    omega
theorem shaped_list [D : Dat K R] (xs : List T) : SeqAt.shaped (.list (xs.map D.d)) = true := by
  unfold SeqAt.shaped
  rw [Bool.and_eq_true]
  refine ⟨lay_all xs, decide_eq_true ?_⟩
  show PyData.depthAll (xs.map D.d) + 1 ≤ 64
  have := dep_all (D := D) xs
  omega
theorem shaped_one [D : Dat K R] (x : T) : SeqAt.shaped (D.d x) = true := by
  unfold SeqAt.shaped
  rw [Bool.and_eq_true]
  refine ⟨D.lay x, decide_eq_true ?_⟩
  have := D.dep x
  omega
theorem eqv_nil (ds : List PyData) : PyData.eqv (.list ds) (.list []) = ds.isEmpty := by
  cases ds <;> rfl
theorem dp_lst [D : Dat K R] {v : V} {xs : List T} (h : rLst K R H v xs) : Dp K H v (.list (xs.map D.d)) := by
  obtain ⟨p, vs, rfl, hl, r⟩ := h
  exact .lst hl (dpall r)
theorem isEmpty_map {f : T → U} (xs : List T) : (xs.map f).isEmpty = xs.isEmpty := by cases xs <;> rfl
/-- xs != [] -/
theorem ev_neNil [D : Dat K R] [Mono R] {PL : List T → Prop} {b : Bool} (h : EvP (rLst K R) PL te σ F) (hb : ∀ xs, PL xs → (!xs.isEmpty) = b) : Ev (tOp (rNeD K) te (tLst tNil)) σ F (.bl b) :=
  ev_opP (S := rLst K R) h (EvN.toR (K := K) (evn_nil (R := R))) fun x y v w G e px py rx ry H1 e1 Q q => by
    subst py
    refine ⟨_, _, dp_lst (D := D) (Mono.mono e1 rx), dp_lst (D := D) (Mono.mono e1 ry), shaped_list x, shaped_list (D := D) [], ?_⟩
    rw [List.map_nil, eqv_nil, isEmpty_map, hb x px]
    exact q H1 (Ex.refl H1)
theorem ev_eqNil [D : Dat K R] [Mono R] {PL : List T → Prop} {b : Bool} (h : EvP (rLst K R) PL te σ F) (hb : ∀ xs, PL xs → xs.isEmpty = b) : Ev (tOp (rEqD K) te (tLst tNil)) σ F (.bl b) :=
  ev_opP (S := rLst K R) h (EvN.toR (K := K) (evn_nil (R := R))) fun x y v w G e px py rx ry H1 e1 Q q => by
    subst py
    refine ⟨_, _, dp_lst (D := D) (Mono.mono e1 rx), dp_lst (D := D) (Mono.mono e1 ry), shaped_list x, shaped_list (D := D) [], ?_⟩
    rw [List.map_nil, eqv_nil, isEmpty_map, hb x px]
    exact q H1 (Ex.refl H1)
/-- (a, b) -/
theorem evp_pair {P2 : U → Prop} [Mono R] [Mono S] (ha : EvP R P ta σ F) (hb : EvP S P2 tb σ F) : EvP (rPr K R S) (fun x => P x.1 ∧ P2 x.2) (tTup (tCons ta (tCons tb tNil))) σ F := fun H e Q q =>
  ha H e _ fun x v G H2 px g rx => (hb.mono g.fz) H2 g.sub _ fun y w G2 H3 py g2 ry => ⟨by show 2 ≤ sizeLine; decide, fun p np => by
    have g3 := g.trans g2
    have g4 := (g3.ex (Ex.new (o := .tup [v, w]) np)).put (g3.free np).1 upd_same
    have e5 : Ex G2 (upd G2 p (.tup [v, w])) := Ex.new (g3.free np).2
    exact q (x, y) _ _ _ ⟨px, py⟩ g4 ⟨p, v, w, rfl, SqT.of upd_same, Mono.mono (g2.fz.trans e5) rx, Mono.mono e5 ry⟩⟩
theorem evr_pair {x : T} {y : U} [Mono R] [Mono S] (ha : EvR R ta σ F x) (hb : EvR S tb σ F y) : EvR (rPr K R S) (tTup (tCons ta (tCons tb tNil))) σ F (x, y) := (evp_pair ha hb).imp fun z h => Prod.ext h.1 h.2
/-- tuple(xs), xs a list -/
theorem evp_tupL {PL : List T → Prop} [Mono R] (h : EvP (rLst K R) PL te σ F) : EvP (rTup K R) PL (tCB (rTupS K) (tCons te tNil)) σ F := fun H e Q q => h H e _ fun xs v G H2 px g rx => by
  obtain ⟨p, vs, rfl, hl, r⟩ := rx
  refine ⟨p, vs, rfl, .inl ⟨ex_l g.sub hl, fun l nl => ?_⟩⟩
  have g4 := (g.ex (Ex.new (o := .tup vs) nl)).put (g.free nl).1 upd_same
  exact q xs _ _ _ px g4 ⟨l, vs, rfl, SqT.of upd_same, seq_mono (Ex.new (g.free nl).2) r⟩
/-- (x,): a tuple of one -/
theorem evr_tup1 {x : T} [Mono R] (h : EvR R ta σ F x) : EvR (rTup K R) (tTup (tCons ta tNil)) σ F [x] := fun H e Q q => h H e _ fun y v G H2 px g rx => ⟨by show 1 ≤ sizeLine; decide, fun p np => by
  subst px
  have g4 := (g.ex (Ex.new (o := .tup [v]) np)).put (g.free np).1 upd_same
  exact q [y] _ _ _ rfl g4 ⟨p, [v], rfl, SqT.of upd_same, .cons (Mono.mono (Ex.new (g.free np).2) rx) .nil⟩⟩
theorem pi_or {X : Cx} {tg e : Expr} {w1 w2 : TI} (h1 : PI X tg e w1) (h2 : PI X tg e w2) : PI X tg e (fun σ H R => w1 σ H R ∨ w2 σ H R) := ⟨fun pins s σ H R I h => h.elim (h1.run pins s σ H R I) (h2.run pins s σ H R I)⟩
theorem q_for_inl {w1 w2 : TI} {g : TG} {ts u2 : TS} {D : Ends} (h : tSeq (tFor w1 g ts) u2 D σ H) : tSeq (tFor (fun σ H R => w1 σ H R ∨ w2 σ H R) g ts) u2 D σ H := Or.inl h
theorem q_for_inr {w1 w2 : TI} {g : TG} {ts u2 : TS} {D : Ends} (h : tSeq (tFor w2 g ts) u2 D σ H) : tSeq (tFor (fun σ H R => w1 σ H R ∨ w2 σ H R) g ts) u2 D σ H := Or.inr h
theorem rint_list {p : Addr} {ns : List Int} (h : SqL K H p (ns.map V.int)) : rLst K rInt H (.ref p) ns := ⟨p, _, rfl, h, seq_ints ns⟩
theorem rnat_list {p : Addr} {ns : List Nat} (h : SqL K H p (ns.map nV)) : rLst K rNat H (.ref p) ns := ⟨p, _, rfl, h, seq_nats ns⟩
end
end Tr
/-! rules that the layer lacks: a range by steps as a list; min, max of a tuple -/
namespace Tr
open PySem PySem.Spec PyProof.Rows L2 Evl RZ
theorem hu1 {j : Nat} {A : Around} (hr : Room j A) : A.units + 1 < cLine := by have := hr.un; omega
theorem hu65 {j : Nat} {A : Around} (hr : Room j A) : A.units + 65 < cLine := by have := hr.un; omega
theorem rgc_two {i j : Int} (h1 : -1000000 ≤ i) (h2 : i ≤ 1000000) (h3 : -1000000 ≤ j) (h4 : j ≤ 1000000) : RgC i j 2 (if i < j then (j - i - 1) / 2 + 1 else 0).toNat := by
  have e : Builtin.Range.rangeSize i j 2 = if i < j then (j - i - 1) / 2 + 1 else 0 := by
    unfold Builtin.Range.rangeSize
    rw [if_pos (by decide)]
  refine ⟨by decide, by decide, ?_, ?_⟩
  · unfold Builtin.Range.small
    rw [e]
    simp only [Builtin.Range.rangeFitsLong, Bool.and_eq_true, Bool.or_eq_true, decide_eq_true_eq, beq_iff_eq, show (2 : Int) > 0 by decide, if_true]
    split <;> omega
  · rw [e]
    split <;> omega
def rgC (a c : Int) (n : Nat) : List V := (List.range n).map fun i => V.int (a + (i : Nat) * c)
theorem vals_rgC {a c : Int} {n : Nat} {acc : Array Value} (h : ItemsOf (fun i v => ∃ t, v = .int (a + i * c) t) acc n) : Vals (rgC a c n) acc.toList := by
  have e : acc.toList.length = n := by rw [Array.length_toList]; exact h.1
  unfold rgC
  rw [← e]
  refine vals_of_get acc.toList _ fun j u hj => ?_
  obtain ⟨t, rfl⟩ := h.2 j u (by rw [← hj, Array.getElem?_toList])
  exact ⟨t, rfl⟩
theorem three_ints {i j k : Int} {us : List Value} (h : Vals [V.int i, .int j, .int k] us) : ∃ t1 t2 t3, us = [.int i t1, .int j t2, .int k t3] := by
  match us, h with
  | [_, _, _], .cons ⟨t1, e1⟩ (.cons ⟨t2, e2⟩ (.cons ⟨t3, e3⟩ .nil)) => exact ⟨t1, t2, t3, by rw [e1, e2, e3]⟩
def tLstRg3 (ta : TA) : TE := fun σ H Q => ta σ H fun vs H1 => ∃ (i j c : Int) (n : Nat), vs = [.int i, .int j, .int c] ∧ RgC i j c n ∧ n ≤ 1000000 ∧ ∀ q, H1 q = none → Q (.ref q) (upd H1 q (.lst (rgC i c n)))
section
variable {X : Cx}
theorem pe_listRg3 {a b c : Expr} {ta : TA} {p pos p2 pos2 : Pos} (hc : X.calm = true) (hg : Gl X "list") (hm : X.mg "list" = none) (hg2 : Gl X "range") (hm2 : X.mg "range" = none) (ha : PA X [a, b, c] ta)
    (na : starEach [.Call (.Name "range" p2) [a, b, c] [] pos2] X.env = (false, eval (.Call (.Name "range" p2) [a, b, c] [] pos2) X.env) :: starEach [] X.env := by rfl)
    (hs : starEach [a, b, c] X.env = (false, eval a X.env) :: starEach [b, c] X.env := by rfl) (hpl : (backTo pos2 (starEach [b, c] X.env)).any (·.1) = false := by rfl) :
    PE X (.Call (.Name "list" p) [.Call (.Name "range" p2) [a, b, c] [] pos2] [] pos) (tLstRg3 ta) := by
  refine ⟨fun pins s σ H Q I h => ?_⟩
  refine Call_ (ld_blt I hg hm boot_list (PyProof.Rows.callWith_type1 (args_cons ?_ na) na))
  refine Call_ (ld_blt I hg2 hm2 boot_range (PyProof.Rows.callWith_type1 (thn (ha.run pos2 pins s σ H _ I h) fun us s1 ⟨vs, H1, I1, r1, q1⟩ => ?_) hs hpl))
  obtain ⟨i, j, k, n, e, R, nz, q⟩ := q1
  obtain ⟨t1, t2, t3, eu⟩ := three_ints (e ▸ r1)
  rw [eu]
  have len : (rgC i k n).length ≤ sizeLine := by
    unfold rgC
    rw [List.length_map, List.length_range, sizeLine_eq]
    omega
  have I2 := I1.kept (h' := s1.heap.push { cls := .type "range", data := .fields #[.int i t1, .int j t2, .int k t3] }) (t' := s1.toks) fun _ _ e => Heap.get?_push_of_some _ e
  exact call_range_3 R.1 (args_nil (call_list_range (n := n) (I2.ok.hd hc) (IsRange.new ..) R.2.2.1 R.2.2.2 (by omega) fun h' tk acc c' hk g hi =>
    ⟨.ref _, _, I2.laid hk (Nat.le_refl _) (show ObjOk X.prog X.w _ _ _ (.lst (rgC i k n)) from ⟨len, acc.toList, c', vals_rgC hi, by rwa [Array.toArray_toList]⟩), rfl, q _ (I2.hok.fresh (Nat.le_refl _))⟩)) (.inl (PyProof.noPylong_small R.2.1))
/-! ### min, max of a tuple -/
theorem minOf_int : ∀ (ns : List Int) (x : Int), PySem.W.minOf x ns ∈ x :: ns ∧ ∀ y ∈ x :: ns, PySem.W.minOf x ns ≤ y
  | [], x => ⟨List.mem_cons_self .., fun y h => by rw [List.mem_singleton] at h; rw [h]; exact Int.le_refl _⟩
  | n :: r, x => by
    have h := minOf_int r (if PySem.W.DatumOrd.lt n x = true then n else x)
    have e : PySem.W.minOf x (n :: r) = PySem.W.minOf (if PySem.W.DatumOrd.lt n x = true then n else x) r := rfl
    have d : (PySem.W.DatumOrd.lt n x = true) ↔ n < x := by
      show decide (n < x) = true ↔ _
      exact decide_eq_true_iff
    rw [e]
    by_cases c : n < x
    · rw [if_pos (d.mpr c)] at h ⊢
      refine ⟨List.mem_cons_of_mem _ h.1, fun y hy => ?_⟩
      rcases List.mem_cons.mp hy with z | z
      · subst z
        have := h.2 n (List.mem_cons_self ..)
        omega
      · exact h.2 y z
    · rw [if_neg (fun z => c (d.mp z))] at h ⊢
      refine ⟨?_, fun y hy => ?_⟩
      · rcases List.mem_cons.mp h.1 with z | z
        · rw [z]; exact List.mem_cons_self ..
        · exact List.mem_cons_of_mem _ (List.mem_cons_of_mem _ z)
      · rcases List.mem_cons.mp hy with z | z
        · subst z; exact h.2 y (List.mem_cons_self ..)
        · rcases List.mem_cons.mp z with z | z
          · subst z
            have := h.2 x (List.mem_cons_self ..)
            omega
          · exact h.2 y (List.mem_cons_of_mem _ z)
theorem maxOf_int : ∀ (ns : List Int) (x : Int), PySem.W.maxOf x ns ∈ x :: ns ∧ ∀ y ∈ x :: ns, y ≤ PySem.W.maxOf x ns
  | [], x => ⟨List.mem_cons_self .., fun y h => by rw [List.mem_singleton] at h; rw [h]; exact Int.le_refl _⟩
  | n :: r, x => by
    have h := maxOf_int r (if PySem.W.DatumOrd.lt x n = true then n else x)
    have e : PySem.W.maxOf x (n :: r) = PySem.W.maxOf (if PySem.W.DatumOrd.lt x n = true then n else x) r := rfl
    have d : (PySem.W.DatumOrd.lt x n = true) ↔ x < n := by
      show decide (x < n) = true ↔ _
      exact decide_eq_true_iff
    rw [e]
    by_cases c : x < n
    · rw [if_pos (d.mpr c)] at h ⊢
      refine ⟨List.mem_cons_of_mem _ h.1, fun y hy => ?_⟩
      rcases List.mem_cons.mp hy with z | z
      · subst z
        have := h.2 n (List.mem_cons_self ..)
        omega
      · exact h.2 y z
    · rw [if_neg (fun z => c (d.mp z))] at h ⊢
      refine ⟨?_, fun y hy => ?_⟩
      · rcases List.mem_cons.mp h.1 with z | z
        · rw [z]; exact List.mem_cons_self ..
        · exact List.mem_cons_of_mem _ (List.mem_cons_of_mem _ z)
      · rcases List.mem_cons.mp hy with z | z
        · subst z; exact h.2 y (List.mem_cons_self ..)
        · rcases List.mem_cons.mp z with z | z
          · subst z
            have := h.2 x (List.mem_cons_self ..)
            omega
          · exact h.2 y (List.mem_cons_of_mem _ z)
theorem isTuple_of {h : Heap} {a : Addr} {vs : Array Value} (p : IsTup h a vs) : h.IsTuple a vs := p
def rMinT (K : PySem.W.Frag) : List V → Hp → VK → Prop := fun vs H Q => ∃ (a : Addr) (ns : List Int), vs = [V.ref a] ∧ SqT K H a (ns.map V.int) ∧ 0 < ns.length ∧ ∀ m, m ∈ ns → (∀ y, y ∈ ns → m ≤ y) → Q (.int m) H
def rMaxT (K : PySem.W.Frag) : List V → Hp → VK → Prop := fun vs H Q => ∃ (a : Addr) (ns : List Int), vs = [V.ref a] ∧ SqT K H a (ns.map V.int) ∧ 0 < ns.length ∧ ∀ m, m ∈ ns → (∀ y, y ∈ ns → y ≤ m) → Q (.int m) H
theorem cr_minT' (K : PySem.W.Frag) (hc : X.calm = true) {j : Nat} (hr : Room j X.A) (h : X.K = K := by rfl) : CallR X (.builtin "min") (rMinT K) := by
  subst h
  intro pins s σ H vs us Q I r h
  obtain ⟨a, ns, rfl, hs, hne, q⟩ := h
  obtain ⟨its, rv, hl, _⟩ := I.tuple hs
  rw [Vals.ref1 r]
  cases ns with
  | nil => cases hne
  | cons x xs =>
    refine PySem.W.min_tuple_datum (α := Int) (x := x) (xs := xs) (I.ok.hd hc) (isTuple_of hl) (PySem.W.HoldAll.of_ints rv.ints) (by have := hr.un; show X.A.units + 1 + 0 < _; omega) fun i v h' tk hv hm hk => ?_
    have hi := rv.ints
    obtain ⟨b, t, e⟩ := SrtO.ints_mem hi v (List.mem_of_getElem? (by simpa using hv))
    subst e
    have e2 : PySem.W.minOf x xs = b := by
      obtain ⟨as, rd⟩ := hm
      cases rd
      rfl
    have hmm := minOf_int xs x
    exact ⟨.int b, H, I.kept hk, ⟨t, rfl⟩, q b (e2 ▸ hmm.1) (e2 ▸ hmm.2)⟩
theorem cr_maxT' (K : PySem.W.Frag) (hc : X.calm = true) {j : Nat} (hr : Room j X.A) (h : X.K = K := by rfl) : CallR X (.builtin "max") (rMaxT K) := by
  subst h
  intro pins s σ H vs us Q I r h
  obtain ⟨a, ns, rfl, hs, hne, q⟩ := h
  obtain ⟨its, rv, hl, _⟩ := I.tuple hs
  rw [Vals.ref1 r]
  cases ns with
  | nil => cases hne
  | cons x xs =>
    refine PySem.W.max_tuple_datum (α := Int) (x := x) (xs := xs) (I.ok.hd hc) (isTuple_of hl) (PySem.W.HoldAll.of_ints rv.ints) (by have := hr.un; show X.A.units + 1 + 0 < _; omega) fun i v h' tk hv hm hk => ?_
    have hi := rv.ints
    obtain ⟨b, t, e⟩ := SrtO.ints_mem hi v (List.mem_of_getElem? (by simpa using hv))
    subst e
    have e2 : PySem.W.maxOf x xs = b := by
      obtain ⟨as, rd⟩ := hm
      cases rd
      rfl
    have hmm := maxOf_int xs x
    exact ⟨.int b, H, I.kept hk, ⟨t, rfl⟩, q b (e2 ▸ hmm.1) (e2 ▸ hmm.2)⟩
end
end Tr
/-! dicts with tuple keys: items, a display of one pair, the sum of the values -/
namespace Tr
open PySem PySem.Spec PyProof.Rows L2 Evl RZ
section
variable {X : Cx} {pins : List (Addr × Obj)} {σ : L2.St} {H : Hp} {s : Shared} {d : Addr} {o : Obj}
theorem frzT2 {kvs : List (List Key × V)} (I : Inv X pins σ H s) (h : H d = some (.frz o (.dT kvs))) : (d == sysModules) = false ∧ ∃ es ep, DT.Raw s.heap d es ep ∧ s.heap.get? d = some o ∧ o.ExactDict ∧ o.data = .dict es ep ∧ es.size = kvs.length ∧
      ∀ (i : Nat) (k : List Key) (v : V), kvs[i]? = some (k, v) → ∃ (en : DictEntry) (q : Addr), es[i]? = some en ∧ en.key = .ref q ∧ H q = some (.tup (k.map kV)) ∧ RelV v en.val := by
  obtain ⟨here, _, sys, rows, rel, o2, es, ep, here2, ex, dat, ent, _⟩ := I.hok d _ h
  obtain rfl : o2 = o := Option.some.inj (here2.symm.trans here)
  refine ⟨sys, es, ep, ⟨_, here, ex, dat⟩, here, ex, dat, (size_of_entries ent).trans (Paired.length rel).symm, fun i k v e => ?_⟩
  obtain ⟨row, at_, _, tup, val⟩ := paired_get rel e
  have en := entry_at ent i
  rw [at_] at en
  exact ⟨_, row.2.1, en, rfl, tup, val⟩
end
/-- the pairs of a locked dict with tuple keys, each a new tuple -/
def ItiT (d : Addr) (o : Obj) (kvs : List (List Key × V)) : It :=
  ⟨fun i H => H d = some (.frz o (.dT kvs)) ∧ i < kvs.length, fun i H x H' => ∃ (T : Addr) (k : List Key) (v : V) (q : Addr), kvs[i]? = some (k, v) ∧ x = .ref T ∧ H q = some (.tup (k.map kV)) ∧ H T = none ∧ H' = upd H T (.tup [.ref q, v]), fun i H => H d = some (.frz o (.dT kvs)) ∧ kvs.length ≤ i⟩
section
variable {P : Program} {w : World} {K : PySem.W.Frag} {tg : Expr} {d I0 : Addr} {o : Obj} {es : Array DictEntry} {ep : Nat}
abbrev StI (it d : Addr) (n ep : Nat) (i : Nat) (h : Heap) : Prop := ∃ ok ov, IsItemIter h it d i n ep ok ov
theorem turn_itemsT {kvs : List (List Key × V)} {elts : List Expr} {kk : Nat} {tpos : Pos} (it : Addr) (hod : o.data = .dict es ep) : Turn P w K (.Tuple elts kk tpos) (ItiT d o kvs) [it] it (StI it d kvs.length ep) := by
  have only : ∀ {b : Addr}, b ∈ [it] → b = it := List.mem_singleton.mp
  refine { mem := List.mem_singleton.mpr rfl, obj := ?_, keep := ?_, item := ?_, done := ?_, self := ?_ }
  · intro i h ⟨_, _, e⟩ b hb
    exact only hb ▸ ⟨_, e, fun _ z => (by cases z)⟩
  · exact fun i h h' ⟨ok, ov, e⟩ k => ⟨ok, ov, k it (List.mem_singleton.mpr rfl) _ e⟩
  · rintro X rfl rfl rfl _ i pins s σ H E I hf ⟨ok, ov, he⟩ ⟨hd, hi⟩
    obtain ⟨_, es', ep', raw, _, _, dat, size, ent⟩ := frzT2 I hd
    obtain ⟨rfl, rfl⟩ := dict_ep hod dat
    have hkv : kvs[i]? = some (kvs[i].1, kvs[i].2) := List.getElem?_eq_getElem hi
    obtain ⟨en, q, at_, hkey, hq, hval⟩ := ent i _ _ hkv
    rw [← size] at he hi
    have here : es'[i] = en := Option.some.inj ((Array.getElem?_eq_getElem hi).symm.trans at_)
    have ne : s.heap.objs.size ≠ it := Nat.ne_of_gt (Heap.lt_size he)
    refine DT.nextI he raw hi fun h1 e1 T1 _ k1 => ⟨_, rfl, wpAny_letOwnedTupleGo_items (s := { s with heap := h1 }) e1 fun h2 e2 sb => ?_⟩
    rw [here] at e2 T1
    have T2 : h2.get? s.heap.objs.size = some { cls := .type "tuple", data := .seq #[en.key, en.val] } := (sb.2 _ ne).trans T1
    have I1 := I.turnedNew (T := s.heap.objs.size) (ob := .tup [.ref q, kvs[i].2]) (h' := h2) (t' := s.toks) (ch := [it]) (fun b ob hb e => (sb.2 b fun z => hb (z ▸ .head _)).trans (k1 b ob (fun z => hb (z ▸ .head _)) e)) hf (Nat.le_refl _)
      ⟨by show 2 ≤ sizeLine; decide, [en.key, en.val], .cons hkey (.cons hval .nil), ⟨_, T2, rfl, _, rfl⟩⟩
    refine ⟨.ref s.heap.objs.size, _, I1, rfl, ⟨_, _, _, q, hkv, rfl, hq, I.hok.fresh (Nat.le_refl _), rfl⟩, ⟨en.key, en.val, size ▸ e2⟩, fun b hb => ?_⟩
    rw [only hb, upd_ne ne.symm]
    exact (hf it (.head _)).1
  · rintro X rfl rfl rfl hc i pins s σ H E I hf ⟨ok, ov, he⟩ ⟨hd, hi⟩
    obtain ⟨_, es', ep', raw, _, _, dat, size, _⟩ := frzT2 I hd
    obtain ⟨rfl, rfl⟩ := dict_ep hod dat
    rw [← size] at he hi
    obtain ⟨g0, g1, _, g3, g4, g5⟩ := hf it (.head _)
    exact DT.endI (I.ok.hd hc) he raw hi fun h' eb => ⟨rfl, I.turned (t' := s.toks) eb g0 g1 g3 g4 g5⟩
  · exact fun A i s Q E ⟨_, _, e⟩ h => PySem.W.kcp_self e h
end
def iItemsT (td : TE) : TI := fun σ H R => td σ H fun x H1 => ∃ d o kvs, x = .ref d ∧ H1 d = some (.frz o (.dT kvs)) ∧ R (ItiT d o kvs) H1
section
variable {X : Cx} {tg e : Expr} {td : TE} {apos cpos : Pos}
theorem pi_itemsT {elts : List Expr} {kk : Nat} {tpos : Pos} (he : PE X e td) (hbase : attributeBase e "items" X.env (eval e X.env) = eval e X.env := by rfl) (hline : (apos.endLine == cpos.line) = true := by rfl) :
    PI X (.Tuple elts kk tpos) (.Call (.Attribute e "items" apos) [] [] cpos) (iItemsT td) := by
  refine ⟨fun pins s σ H R I h => ?_⟩
  refine wpAny_Call_method (T := "dict") (id := "dict.items") hbase rfl hline F.plainAttrs_dict F.slot_dict_items F.type_dict_items (thn (he.run pins s σ H _ I h) fun u s1 ⟨x, H1, I1, rx, d, o, kvs, ex, hd, q⟩ => ?_)
  subst ex
  obtain rfl : u = Value.ref d := rx
  obtain ⟨sys, es, ep, raw, here, ex, dat, size, _⟩ := frzT2 I1 hd
  have I2 := I1.kept (h' := s1.heap.push { cls := .type "dict_items", data := .fields #[.ref d] }) (t' := s1.toks) fun _ _ q => Heap.get?_push_of_some _ q
  have go := DT.iterI (prog := X.prog) (w := X.w) (A := X.A) (E := X.xe) (d := d) (es := es) (ep := ep) (s := { s1 with heap := s1.heap.push { cls := .type "dict_items", data := .fields #[.ref d] } }) ⟨_, Heap.get?_push_size _ rfl, rfl, rfl⟩ (raw.push _) (pi_one (tg := .Tuple elts kk tpos) (tk := s1.toks) I2 _ (turn_itemsT _ dat) ⟨.none, .none, size ▸ Heap.get?_push_size _ rfl⟩ q)
  exact ⟨raw.typeIs, fun b e => (by cases e; exact ⟨o, here, ex.2.1⟩), method_meetsIn F.slot_dict_items F.entry_dict_items rfl (PySem.evalArgs_none ⟨rfl, raw.typeIs, F.args_dict_items_1 _, _, DT.meetsItems (es := es) (ep := ep) sys, ⟨raw, go⟩⟩)⟩
/-! ### sum(d.values()) -/
def tSumVals (td : TE) : TE := fun σ H Q => td σ H fun x H1 => ∃ (a : Addr) (kvs : List (List Key × V)) (is : List Int), x = V.ref a ∧ Rd H1 a (.dT kvs) ∧ kvs.map (·.2) = is.map V.int ∧ Q (.int is.sum) H1
theorem pe_sumVals {o : Expr} {p pos mpos : Pos} (hc : X.calm = true) (hg : Gl X "sum") (hm : X.mg "sum" = none) (hd : PE X o td) (hbase : attributeBase o "values" X.env (eval o X.env) = eval o X.env := by rfl) (hline : (apos.endLine == mpos.line) = true := by rfl)
    (hse : starEach [Expr.Call (.Attribute o "values" apos) [] [] mpos] X.env = [(false, eval (Expr.Call (.Attribute o "values" apos) [] [] mpos) X.env)] := by rfl) :
    PE X (.Call (.Name "sum" p) [.Call (.Attribute o "values" apos) [] [] mpos] [] pos) (tSumVals td) := by
  refine ⟨fun pins s σ H Q I h => ?_⟩
  refine wpAny_Call_Name_kw (ld_blt I hg hm (u := .builtin "sum") (by first | rfl | decide +kernel) ?_ (by first | decide +kernel | decide) (by first | decide +kernel | decide))
  rw [hse]
  refine PySem.callWith_builtin1 (wpAny_Call_method0_late hbase hline (thn (hd.run pins s σ H _ I h) fun v s1 ⟨x, H1, I1, r1, a, kvs, is, ex, ha, hv, q⟩ => ?_))
  subst ex
  obtain rfl : v = Value.ref a := r1
  obtain ⟨z, hsys, xs, rel, ob, es, ep, ho, hx, hdat, hes, his, hn⟩ := dt_rd I1.hok ha
  have raw : DT.Raw s1.heap a es ep := ⟨ob, ho, hx, hdat⟩
  refine ⟨"dict", "dict.values", F.plainAttrs_dict, F.slot_dict_values, F.type_dict_values, raw.typeIs, fun b e => ?_, Calls.callWith_builtin rfl (PySem.evalArgs_none ?_)⟩
  · cases e
    exact ⟨ob, ho, hx.2.1⟩
  refine call_meetsIn F.slot_dict_values raw.typeIs F.entry_dict_values (F.args_dict_values_1 _) (meets_dict_values_raw a hsys) ⟨⟨es, ep, raw⟩, ?_⟩
  have k1 : ∀ b u, s1.heap.get? b = some u → (s1.heap.push { cls := .type "dict_values", data := .fields #[.ref a] }).get? b = some u := fun b u e => Heap.get?_push_of_some _ e
  have hsz : es.size = is.length := by
    have e1 := congrArg List.length hv
    rw [List.length_map, List.length_map] at e1
    have l1 : es.size = xs.length := size_of_entries hes
    have l2 : kvs.length = xs.length := Paired.length rel
    clear z hsys
    omega
  have hval : ∀ (i : Nat) (v : Value), (∃ hi : i < es.size, v = es[i].val) → ∃ t, v = Value.int (is.getD i 0) t := fun i v ⟨hi, e⟩ => by
    have q := entry_at hes i
    have hxi : i < xs.length := by have := size_of_entries hes; omega
    rw [Array.getElem?_eq_getElem hi, List.getElem?_eq_getElem hxi] at q
    obtain ⟨kv, hk1, _, _, hk2⟩ := L2.DX.pget rel (List.getElem?_eq_getElem hxi)
    have e1 : (kvs.map (·.2))[i]? = some kv.2 := by rw [List.getElem?_map, hk1] <;> rfl
    rw [hv, List.getElem?_map] at e1
    obtain ⟨j, hj, e2⟩ := Option.map_eq_some_iff.mp e1
    rw [← e2] at hk2
    obtain ⟨t, e3⟩ := hk2
    have e4 : es[i].val = xs[i].2.2 := congrArg DictEntry.val (Option.some.inj q)
    refine ⟨t, ?_⟩
    rw [e, e4, e3, List.getD_eq_getElem?_getD, hj] <;> rfl
  have hh : X.A.handled = none := I1.ok.hd hc
  refine call_sum_walkAnyS ?_
  have KS : PySem.W.KdlSrc X.prog X.w "dict_values" s1.heap.objs.size a es.size (fun i v => ∃ hi : i < es.size, v = es[i].val) (fun h => h.IsValuesView s1.heap.objs.size a ∧ h.DictRaw a es ep) := PySem.KdlSrc.rawValues
  have hok : (s1.heap.push { cls := .type "dict_values", data := .fields #[.ref a] }).IsValuesView s1.heap.objs.size a ∧ (s1.heap.push { cls := .type "dict_values", data := .fields #[.ref a] }).DictRaw a es ep := ⟨⟨_, Heap.get?_push_size _ rfl, rfl, rfl⟩, ⟨ob, k1 _ _ ho, hx, hdat⟩⟩
  obtain ⟨oI, St, hit, W, st⟩ := KS.iter X.A.in1 { s1 with heap := s1.heap.push { cls := .type "dict_values", data := .fields #[.ref a] } } hh hok
  refine hit _ _ ⟨_, _, _, _, es.size, _, _, fun i => is.getD i 0, rfl, W.toS, st, fun b hb => ?_, hval, fun s' t' hm => ?_⟩
  · show b < (Heap.push _ oI).objs.size
    rw [Heap.size_push]
    rcases List.mem_cons.mp hb with e | hb
    · rw [e]; exact Nat.lt_succ_self _
    · rw [List.mem_singleton.mp hb]; exact Nat.lt_succ_of_lt (KS.there _ hok).2
  · have hk : ∀ b o, s1.heap.get? b = some o → s'.heap.get? b = some o := fun b o e =>
      hm.heap b o (fun hI => Nat.lt_irrefl _ (Nat.lt_trans (Heap.lt_size e) (Nat.lt_of_lt_of_eq (Nat.lt_succ_self _) ((Heap.size_push s1.heap _).symm.trans (List.mem_singleton.mp hI).symm)))) (Heap.get?_push_of_some _ (k1 _ _ e))
    rw [PySem.Moved.eq_with hm]
    rw [preSum_getD, hsz, List.take_length]
    exact ⟨.int is.sum, H1, I1.kept (t' := s'.toks) hk, ⟨_, rfl⟩, q⟩
/-! ### {(): 1} -/
def dispEnd (p : Addr) (Q : VK) (x y : V) (H2 : Hp) : Prop := H2 p = some (.dT []) ∧ ∃ (k : List Key) (b : Addr), x = .ref b ∧ H2 b = some (.tup (k.map kV)) ∧ Q (.ref p) (upd H2 p (.dT [(k, y)]))
def tDispT (tk tv : TE) : TE := fun σ H Q => ∀ p, H p = none → tk σ (upd H p (.dT [])) fun x H1 => tv σ H1 fun y H2 => dispEnd p Q x y H2
theorem pe_dispT {k v : Expr} {tk tv : TE} {pos : Pos} (hu : X.A.units + 1 < cLine) (hk : PE X k tk) (hv : PE X v tv) : PE X (.Dict [some k] [v] pos) (tDispT tk tv) := by
  refine ⟨fun pins s σ H Q I q => ?_⟩
  have hn := I.hok.fresh (Nat.le_refl s.heap.objs.size)
  have I1 := I.laid (a := s.heap.objs.size) (o := .dT []) (h' := s.heap.push { cls := .type "dict", data := .dict #[] }) (t' := s.toks) (fun _ _ q => Heap.get?_push_of_some _ q) (Nat.le_refl _) (dt_empty s.heap I.big)
  rw [arm_eval_Dict, zip_pairTrees [some k] [v] X.env pos rfl rfl, dictDisplay_pairs (pairTrees [some k] [v] X.env pos) (by simp [pairTrees]) (by simp [pairTrees])]
  refine wpAny_bind (wpAny_standAt (wpAny_bind (wpAny_subDictH (knd := tupleKind (mixKind X.prog X.w)) (Q := fun d s' => wpAny (model X.prog X.w) X.A (pure (Value.ref d)) (EP X pins σ Q) X.xe s') (show X.A.units < cLine by omega) (by simp [pairTrees]) ?_)))
  refine thn ((pps_cons hk hv pps_nil).run pins _ σ _ (fun ps H2 => match ps with
    | [(x, y)] => dispEnd s.heap.objs.size Q x y H2
    | _ => False) I1 (q _ hn)) fun ws s2 ⟨ps, H2, I2, rel, hp⟩ => ?_
  match ps, rel, hp with
  | [(x, y)], rel, hp =>
    obtain ⟨e, k, b, ex, hb, q2⟩ := hp
    subst ex
    cases rel with
    | @cons a z as bs r1 r2 =>
      cases r2
      obtain ⟨zk, zv⟩ := z
      obtain ⟨rk, rv⟩ := r1
      cases (show zk = Value.ref b from rk)
      obtain ⟨z, hd, xs0, r0, dd⟩ := dt_of I2.hok e
      cases r0
      refine ⟨[(k, b, zv)], ⟨rfl, rfl, key_of I2.hok hb, True.intro⟩, dd, fun h' tk2 dd' hs => wpAny_pure ⟨.ref s.heap.objs.size, _, ?_, rfl, q2⟩⟩
      obtain ⟨o, es, ep, hq, h2, h3, h4, _, h5⟩ := dd'
      have hb' : b ≠ s.heap.objs.size := fun z => by rw [z, e] at hb; cases hb
      exact d_write I2 (by rw [e]; exact True.intro) hs ⟨o, hq⟩ ⟨by show 1 ≤ sizeLine; rw [sizeLine_eq]; omega, hd, [(k, b, zv)], .cons ⟨rfl, by rw [upd_ne hb']; exact hb, rv⟩ .nil, o, es, ep, hq, h2, h3, h4, h5⟩
end
end Tr
/-! dict(zip(a, b)) for any two iterators that can be drawn from (here a list and a tuple) -/
namespace Tr
open PySem PySem.Spec PyProof.Rows L2 Evl RZ
section
variable {prog : Program} {w : World} {A : Around} {E : Value → Shared → Prop} {s : Shared} {z TI TO T i1 i2 d : Addr} {fp1 fp2 : List Addr} {n1 n2 i : Nat} {P1 P2 : Nat → Value → Prop} {St1 St2 : Nat → Heap → Prop}
/-- all cells stay but those named -/
def Stay (cs : List Addr) (h h' : Heap) : Prop := ∀ c, c ∉ cs → ∀ o, h.get? c = some o → h'.get? c = some o
theorem Stay.trans {cs : List Addr} {h h1 h2 : Heap} (a : Stay cs h h1) (b : Stay cs h1 h2) : Stay cs h h2 := fun c n o e => b c n o (a c n o e)
theorem Stay.same {cs : List Addr} {h h' : Heap} {x : Addr} (e : Heap.SameBut x h h') (m : x ∈ cs) : Stay cs h h' := fun c n o q => e.extBut c o (fun z => n (z ▸ m)) q
theorem Stay.more {cs : List Addr} {h : Heap} {o : Obj} : Stay cs h (h.push o) := fun c _ u q => Heap.get?_push_of_some _ q
/-- the tuple at T that the zip gave last is still in use -/
structure Lent (z TI TO T i1 i2 d : Addr) (h : Heap) : Prop where
  cell : ∃ f, IsZipHeld h z TI TO T f
  obj : ∃ o, h.get? T = some o
  nz : T ≠ z
  n1 : T ≠ i1
  n2 : T ≠ i2
  nd : T ≠ d
/-- a loop over two written things -/
theorem wp_two {β : Type} {M : Model} {f : Value → β → Sem (ForInStep β)} {a b : Value} {s0 : β} {Q : β → Shared → Prop}
    (h : wpAny M A (f a s0) (fun r s' => match r with
      | .done x => Q x s'
      | .yield x => wpAny M A (f b x) (fun r s2 => match r with | .done x => Q x s2 | .yield x => Q x s2) E s') E s) : wpAny M A (forIn #[a, b] s0 f) Q E s := by
  rw [← Array.forIn_toList, List.forIn_cons]
  refine wpAny_bind (wpAny_mono h (fun r s' hr => ?_) fun _ _ z => z)
  cases r with
  | done x => exact wpAny_pure hr
  | yield x =>
    show wpAny M A (forIn [b] x f) Q E s'
    rw [List.forIn_cons]
    refine wpAny_bind (wpAny_mono hr (fun r s2 hr => ?_) fun _ _ z => z)
    cases r with
    | done x => exact wpAny_pure hr
    | yield x => exact wpAny_pure hr
theorem lent_body {Q : Value → Shared → Prop} (S : ZipSep2 z TI TO i1 i2 fp1 fp2) (D1 : Draws prog w A i1 fp1 n1 P1 St1) (D2 : Draws prog w A i2 fp2 n2 P2 St2) (L : Lent z TI TO T i1 i2 d s.heap) (hTI : IsPair s.heap TI (.ref i1) (.ref i2))
    (st1 : St1 i s.heap) (st2 : St2 i s.heap) (le1 : i ≤ n1) (le2 : i ≤ n2)
    (hQ : i < n1 → i < n2 → ∀ x y h' tk, P1 i x → P2 i y → Lent z TI TO T i1 i2 d h' → St1 (i + 1) h' → St2 (i + 1) h' → IsPair h' s.heap.objs.size x y → Stay [z, i1, i2] s.heap h' → Q (.ref s.heap.objs.size) { s with heap := h', toks := tk })
    (hE : i = n1 ∨ i = n2 → ∀ h' tk e, Stay [z, i1, i2] s.heap h' → (∃ o, h'.get? e = some o ∧ o.cls = .type "StopIteration") → E (.ref e) { s with heap := h', toks := tk }) :
    wpAny (model prog w) A (Builtin.«zip.__next__» ⟨[.ref z], []⟩) (fun fin s' => ∃ v, fin = .done (.ret v) ∧ Q v s') E s := by
  obtain ⟨hp, g, dr, tk0, os⟩ := s
  obtain ⟨⟨f, hz⟩, ⟨oT, hT⟩, r1, r2, r3, r4⟩ := L
  have free : ∀ {A' : Around} {E' : Value → Shared → Prop} {Q' : Bool → Shared → Prop}, (∀ h', IsZipHeld h' z TI TO T true → Heap.SameBut z hp h' → Q' false ⟨h', g, dr, tk0, os⟩) → wpAny (model prog w) A' (Builtin.SmallTypes.ownedTupleIsFree (.ref z)) Q' E' ⟨hp, g, dr, tk0, os⟩ := fun h => wpAny_tupleHeld_zip hz hT h
  wp_walk using free
  intro h1 hz1 hs1
  have k1 : Stay [z, i1, i2] hp h1 := .same hs1 (.head _)
  have a1 : St1 i h1 := D1.over st1 hs1 S.zf1
  have a2 : St2 i h1 := D2.over st2 hs1 S.zf2
  refine wpAny_bind (wp_two ?_)
  by_cases c1 : i < n1
  · have draw : ∀ {Q' : Value → Shared → Prop} {E' : Value → Shared → Prop}, (∀ x h' tk, P1 i x → St1 (i + 1) h' → Heap.SameBut i1 h1 h' → Q' x ⟨h', g, dr, tk, os⟩) → wpAny (model prog w) A (Builtin.SmallTypes.nextOf (.ref i1)) Q' E' ⟨h1, g, dr, tk0, os⟩ := fun h => D1.item i _ _ _ c1 a1 h
    wp_walk using draw
    intro x h2 tk1 px b1 hs2
    have k2 : Stay [z, i1, i2] hp h2 := k1.trans (.same hs2 (by simp))
    have b2 : St2 i h2 := D2.over a2 hs2 S.sep1_2
    by_cases c2 : i < n2
    · have draw2 : ∀ {Q' : Value → Shared → Prop} {E' : Value → Shared → Prop}, (∀ y h' tk, P2 i y → St2 (i + 1) h' → Heap.SameBut i2 h2 h' → Q' y ⟨h', g, dr, tk, os⟩) → wpAny (model prog w) A (Builtin.SmallTypes.nextOf (.ref i2)) Q' E' ⟨h2, g, dr, tk1, os⟩ := fun h => D2.item i _ _ _ c2 b2 h
      wp_walk using draw2
      intro y h3 tk2 py d2 hs3
      have k3 : Stay [z, i1, i2] hp h3 := k2.trans (.same hs3 (by simp))
      wp_walk
      have hsz : h3.objs.size = hp.objs.size := by rw [hs3.1, hs2.1, hs1.1]
      have push : ∀ c o, h3.get? c = some o → (h3.push { cls := .type "tuple", data := .seq #[x, y] }).get? c = some o := fun c o e => Heap.get?_push_of_some _ e
      have nT : T ∉ [z, i1, i2] := by simp [r1, r2, r3]
      have res := hQ c1 c2 x y (h3.push { cls := .type "tuple", data := .seq #[x, y] }) tk2 px py ⟨⟨true, push _ _ (hs3.extBut _ _ S.zi2 (hs2.extBut _ _ S.zi1 hz1))⟩, ⟨oT, push _ _ (k3 T nT oT hT)⟩, r1, r2, r3, r4⟩
        (D1.frame _ _ _ (D1.over b1 hs3 S.sep2_1) fun c _ o e => push c o e) (D2.frame _ _ _ d2 fun c _ o e => push c o e) (by rw [← hsz]; exact Heap.get?_push_size _ rfl) (k3.trans fun c _ o e => push c o e)
      refine ⟨_, rfl, ?_⟩
      rw [hsz]
      exact res
    · have e2 : i = n2 := by omega
      have draw2 : ∀ {Q' : Value → Shared → Prop} {E' : Value → Shared → Prop}, (∀ h' e, Heap.ExtBut i2 h2 h' → (∃ o, h'.get? e = some o ∧ o.cls = .type "StopIteration") → E' (.ref e) ⟨h', g, dr, tk1, os⟩) → wpAny (model prog w) A (Builtin.SmallTypes.nextOf (.ref i2)) Q' E' ⟨h2, g, dr, tk1, os⟩ := fun h => D2.done _ _ _ (e2 ▸ b2) h
      wp_walk using draw2
      exact fun h3 e hs3 he => hE (.inr e2) h3 tk1 e (k2.trans fun c n o q => hs3 c o (fun z => n (by simp [z])) q) he
  · have e1 : i = n1 := by omega
    have draw : ∀ {Q' : Value → Shared → Prop} {E' : Value → Shared → Prop}, (∀ h' e, Heap.ExtBut i1 h1 h' → (∃ o, h'.get? e = some o ∧ o.cls = .type "StopIteration") → E' (.ref e) ⟨h', g, dr, tk0, os⟩) → wpAny (model prog w) A (Builtin.SmallTypes.nextOf (.ref i1)) Q' E' ⟨h1, g, dr, tk0, os⟩ := fun h => D1.done _ _ _ (e1 ▸ a1) h
    wp_walk using draw
    exact fun h2 e hs2 he => hE (.inl e1) h2 tk0 e (k1.trans fun c n o q => hs2 c o (fun z => n (by simp [z])) q) he
theorem lent_next {Q : Option Value → Shared → Prop} (S : ZipSep2 z TI TO i1 i2 fp1 fp2) (D1 : Draws prog w A.in1 i1 fp1 n1 P1 St1) (D2 : Draws prog w A.in1 i2 fp2 n2 P2 St2) (L : Lent z TI TO T i1 i2 d s.heap) (hTI : IsPair s.heap TI (.ref i1) (.ref i2))
    (st1 : St1 i s.heap) (st2 : St2 i s.heap) (le1 : i ≤ n1) (le2 : i ≤ n2)
    (hQ : i < n1 → i < n2 → ∀ x y h' tk, P1 i x → P2 i y → Lent z TI TO T i1 i2 d h' → St1 (i + 1) h' → St2 (i + 1) h' → IsPair h' s.heap.objs.size x y → Stay [z, i1, i2] s.heap h' → Q (some (.ref s.heap.objs.size)) { s with heap := h', toks := tk })
    (hE : i = n1 ∨ i = n2 → ∀ h' tk, Stay [z, i1, i2] s.heap h' → Q none { s with heap := h', toks := tk }) : wpAny (model prog w) A (pyNext (.ref z)) Q E s := by
  obtain ⟨f, hz⟩ := L.cell
  have ty : s.TypeIs (.ref z) "zip" := ⟨_, hz, rfl⟩
  have body := lent_body (E := fun e s' => ∃ a h' tk, e = .ref a ∧ (i = n1 ∨ i = n2) ∧ Stay [z, i1, i2] s.heap h' ∧ (∃ o, h'.get? a = some o ∧ o.cls = .type "StopIteration") ∧ s' = { s with heap := h', toks := tk })
    (Q := fun v s' => wpAny (model prog w) A (pure (some v)) Q E s') S D1 D2 L hTI st1 st2 le1 le2 (fun c1 c2 x y h' tk p1 p2 l a1 a2 pr k => wpAny_pure (hQ c1 c2 x y h' tk p1 p2 l a1 a2 pr k)) fun c h' tk e k he => ⟨e, h', tk, rfl, c, k, he, rfl⟩
  unfold pyNext
  refine wpAny_bind (wpAny_attempt (wpAny_callSpecial?_slot (name := Str.ofString "__next__") ty F.slot_zip_next (wpAny_call_entry F.slot_zip_next ty F.entry_zip_next (wpAny_mono body (fun _ _ z => z) fun e s' z => ?_) (F.args_zip_next_1 _))))
  obtain ⟨a, h', tk, rfl, c, k, ⟨o, ho, hc⟩, rfl⟩ := z
  exact wpAny_bind (wpAny_isInstance (T := "StopIteration") (b := true) ⟨o, ho, hc⟩ isSubtype_stop (wpAny_pure (hE c h' tk k)))
/-- the zip while a dict is made of it -/
def ZSt (z TI TO i1 i2 d : Addr) (St1 St2 : Nat → Heap → Prop) (i : Nat) (h : Heap) : Prop := IsPair h TI (.ref i1) (.ref i2) ∧ St1 i h ∧ St2 i h ∧ ((IsZip h z TI TO .none ∧ ∃ a b, IsPair h TO a b) ∨ ∃ T, Lent z TI TO T i1 i2 d h)
theorem stay4 {h h' : Heap} (hk : ∀ c o, c ≠ z → c ≠ TO → c ≠ i1 → c ≠ i2 → h.get? c = some o → h'.get? c = some o) : Stay [z, TO, i1, i2] h h' := fun c n o e => by
  simp only [List.mem_cons, List.not_mem_nil, or_false, not_or] at n
  exact hk c o n.1 n.2.1 n.2.2.1 n.2.2.2 e
theorem stay3 {h h' : Heap} (hk : Stay [z, i1, i2] h h') : Stay [z, TO, i1, i2] h h' := fun c n o e => hk c (fun m => n (by
  simp only [List.mem_cons, List.not_mem_nil, or_false] at m ⊢
  rcases m with m | m | m
  · exact .inl m
  · exact .inr (.inr (.inl m))
  · exact .inr (.inr (.inr m)))) o e
theorem zipSrc (S : ZipSep2 z TI TO i1 i2 fp1 fp2) (D1 : Draws prog w A.in1 i1 fp1 n1 P1 St1) (D2 : Draws prog w A.in1 i2 fp2 n2 P2 St2) (hd : d ∉ z :: TI :: TO :: (fp1 ++ fp2)) :
    PairSrc prog w A z d [z, TO, i1, i2] (min n1 n2) (fun i k v => P1 i k ∧ P2 i v) (ZSt z TI TO i1 i2 d St1 St2) := by
  simp only [List.mem_cons, List.mem_append, not_or] at hd
  obtain ⟨dz, dT, dO, d1, d2⟩ := hd
  have m1 : i1 ≠ d := fun e => d1 (e ▸ S.mem1)
  have m2 : i2 ≠ d := fun e => d2 (e ▸ S.mem2)
  refine { off := ?_, frame := ?_, item := ?_, done := ?_ }
  · simp only [List.mem_cons, List.not_mem_nil, or_false, not_or]
    exact ⟨dz, dO, m1.symm, m2.symm⟩
  · intro i h h' ⟨a, st1, st2, c⟩ hk
    have f1 := D1.frame i h h' st1 fun b hb o e => hk b o (fun q => d1 (q ▸ hb)) e
    have f2 := D2.frame i h h' st2 fun b hb o e => hk b o (fun q => d2 (q ▸ hb)) e
    refine ⟨hk _ _ (Ne.symm dT) a, f1, f2, c.elim (fun ⟨hz, x, y, hO⟩ => .inl ⟨hk _ _ (Ne.symm dz) hz, x, y, hk _ _ (Ne.symm dO) hO⟩) fun ⟨T, L⟩ => .inr ⟨T, ?_⟩⟩
    obtain ⟨⟨f, hz⟩, ⟨o, ho⟩, r⟩ := L
    exact ⟨⟨f, hk _ _ (Ne.symm dz) hz⟩, ⟨o, hk _ _ (by assumption) ho⟩, by assumption, by assumption, by assumption, by assumption⟩
  · intro i s Q E hi ⟨a, st1, st2, c⟩ hds hQ
    have l1 : i < n1 := Nat.lt_of_lt_of_le hi (Nat.min_le_left ..)
    have l2 : i < n2 := Nat.lt_of_lt_of_le hi (Nat.min_le_right ..)
    rcases c with ⟨hz, x, y, hO⟩ | ⟨T, L⟩
    · refine wpAny_pyNext_zipD2_item S D1 D2 hz a hO st1 st2 l1 l2 fun x1 x2 h' tk p1 p2 z1 o1 s1 s2 t1 _ hk => ?_
      have away : ∀ {b : Addr} {o : Obj}, s.heap.get? b = some o → s.heap.objs.size ≠ b := fun e q => Nat.lt_irrefl _ (q ▸ Heap.lt_size e)
      obtain ⟨_, e1⟩ := D1.live _ _ st1
      obtain ⟨_, e2⟩ := D2.live _ _ st2
      exact hQ s.heap.objs.size x1 x2 h' tk ⟨p1, p2⟩ (.inl ⟨_, t1, rfl, _, rfl⟩) ⟨hk _ _ S.TIz S.TITO S.TIi1 S.TIi2 a, s1, s2, .inr ⟨_, ⟨false, z1⟩, ⟨_, t1⟩, away hz, away e1, away e2, Nat.ne_of_gt hds⟩⟩ fun b o n e => stay4 hk b n o e
    · refine lent_next S D1 D2 L a st1 st2 (Nat.le_of_lt l1) (Nat.le_of_lt l2) (fun _ _ x1 x2 h' tk p1 p2 L' s1 s2 t1 hk => ?_) fun c => by omega
      exact hQ s.heap.objs.size x1 x2 h' tk ⟨p1, p2⟩ (.inl ⟨_, t1, rfl, _, rfl⟩) ⟨hk _ (by simp [S.TIz, S.TIi1, S.TIi2]) _ a, s1, s2, .inr ⟨T, L'⟩⟩ fun b o n e => stay3 hk b n o e
  · intro s Q E ⟨a, st1, st2, c⟩ hQ
    have l1 : min n1 n2 ≤ n1 := Nat.min_le_left ..
    have l2 : min n1 n2 ≤ n2 := Nat.min_le_right ..
    rcases c with ⟨hz, x, y, hO⟩ | ⟨T, L⟩
    · exact wpAny_pyNext_zipD2_end S D1 D2 hz a hO st1 st2 l1 l2 (by omega) fun h' tk hk => hQ h' tk fun b o n e => stay4 hk b n o e
    · exact lent_next S D1 D2 L a st1 st2 l1 l2 (fun c1 c2 => by omega) fun _ h' tk hk => hQ h' tk fun b o n e => stay3 hk b n o e
/-- a zip that nobody drew from, as what dict() may be given -/
theorem zipArg (S : ZipSep2 z TI TO i1 i2 fp1 fp2) (D1 : ∀ A : Around, A.handled = none → Draws prog w A i1 fp1 n1 P1 St1) (D2 : ∀ A : Around, A.handled = none → Draws prog w A i2 fp2 n2 P2 St2)
    (kp1 : ∀ h h', (∀ b o, h.get? b = some o → h'.get? b = some o) → St1 0 h → St1 0 h') (kp2 : ∀ h h', (∀ b o, h.get? b = some o → h'.get? b = some o) → St2 0 h → St2 0 h')
    (th1 : ∀ h, St1 0 h → ∀ b ∈ fp1, ∃ o, h.get? b = some o) (th2 : ∀ h, St2 0 h → ∀ b ∈ fp2, ∃ o, h.get? b = some o) :
    PairArg prog w "zip" z (z :: TI :: TO :: (fp1 ++ fp2)) [z, TO, i1, i2] (min n1 n2) (fun i k v => P1 i k ∧ P2 i v) (fun h => IsPair h TI (.ref i1) (.ref i2) ∧ St1 0 h ∧ St2 0 h ∧ IsZip h z TI TO .none ∧ ∃ a b, IsPair h TO a b) := by
  refine { type := fun s ok => ⟨_, ok.2.2.2.1, rfl⟩, notDict := by decide, keep := ?_, there := ?_, sub := ?_, noKeys := fun A s Q E hA ok h => getAttrOr_miss_zip ok.2.2.2.1 rfl rfl rfl zip_no_keys (by decide +kernel) hA h, iter := ?_ }
  · exact fun h h' ⟨a, s1, s2, c, x, y, b⟩ hk => ⟨hk _ _ a, kp1 h h' hk s1, kp2 h h' hk s2, hk _ _ c, x, y, hk _ _ b⟩
  · intro h ⟨a, s1, s2, c, x, y, b⟩ e he
    simp only [List.mem_cons, List.mem_append] at he
    rcases he with rfl | rfl | rfl | he | he
    · exact ⟨_, c⟩
    · exact ⟨_, a⟩
    · exact ⟨_, b⟩
    · exact th1 h s1 e he
    · exact th2 h s2 e he
  · intro b hb
    simp only [List.mem_cons, List.mem_append, List.not_mem_nil, or_false] at hb ⊢
    rcases hb with rfl | rfl | rfl | rfl
    · exact .inl rfl
    · exact .inr (.inr (.inl rfl))
    · exact .inr (.inr (.inr (.inl S.mem1)))
    · exact .inr (.inr (.inr (.inr S.mem2)))
  · intro A s d Q E hA ⟨a, s1, s2, c, o⟩ _ hd h
    exact wpAny_pyIter_zip c (h z _ _ s.heap s.toks (zipSrc S (D1 _ hA) (D2 _ hA) hd) ⟨a, s1, s2, .inl ⟨c, o⟩⟩ (fun _ _ e => e) fun b hb => .inl hb)
end
end Tr
namespace Tr
open PySem PySem.Spec PyProof.Rows L2 Evl RZ
section
variable {X : Cx}
def zipK (ks : List Int) (us : List V) : List (Key × V) := (ks.map fun i => (Sum.inl i : Key)).zip us
theorem pairs_zip {P : Program} {w : World} : ∀ {ks : List Int} {us : List V} {xs ys : List Value}, Vals (ks.map V.int) xs → Vals us ys → ks.length = us.length →
    ∃ kvs : List (Key × Value), KV (zipK ks us) kvs ∧ kvs.length = ks.length ∧ ∀ (i : Nat) (key v : Value), xs[i]? = some key → ys[i]? = some v → ∃ k, kvs[i]? = some (k, v) ∧ (mixKind P w).is k key = true
  | [], [], _, _, .nil, .nil, _ => ⟨[], .nil, rfl, fun i key v h => by simp at h⟩
  | k :: ks, u :: us, _, _, .cons r rr, .cons q qq, h => by
    obtain ⟨kvs, h1, h2, h3⟩ := pairs_zip (P := P) (w := w) rr qq (by simpa using h)
    refine ⟨(Sum.inl k, _) :: kvs, .cons ⟨rfl, q⟩ h1, by rw [List.length_cons, List.length_cons, h2], fun i key v hk hv => ?_⟩
    cases i with
    | zero =>
      rw [List.getElem?_cons_zero] at hk hv
      cases hk
      cases hv
      exact ⟨Sum.inl k, rfl, kV_is (k := Sum.inl k) r⟩
    | succ i =>
      rw [List.getElem?_cons_succ] at hk hv
      obtain ⟨k2, e1, e2⟩ := h3 i key v hk hv
      exact ⟨k2, by rw [List.getElem?_cons_succ]; exact e1, e2⟩
def tDictZ (K : PySem.W.Frag) (ta : TA) : TE := fun σ H Q => ta σ H fun vs H1 => ∃ (a b : Addr) (ks : List Int) (us : List V), vs = [.ref a, .ref b] ∧ SqL K H1 a (ks.map V.int) ∧ SqT K H1 b us ∧ ks.length = us.length ∧ ks.length ≤ 1000 ∧
  ∀ p, H1 p = none → Q (.ref p) (upd H1 p (.dK (mergeK [] (zipK ks us))))
theorem pe_dictZip {K : PySem.W.Frag} {e e2 : Expr} {ta : TA} {p pos p2 pos2 : Pos} (hc : X.calm = true) (hg : Gl X "dict") (hm : X.mg "dict" = none) (hg2 : Gl X "zip") (hm2 : X.mg "zip" = none) (ha : PA X [e, e2] ta)
    (na : starEach [.Call (.Name "zip" p2) [e, e2] [] pos2] X.env = (false, eval (.Call (.Name "zip" p2) [e, e2] [] pos2) X.env) :: starEach [] X.env := by rfl)
    (hs : starEach [e, e2] X.env = (false, eval e X.env) :: starEach [e2] X.env := by rfl) (hpl : (backTo pos2 (starEach [e2] X.env)).any (·.1) = false := by rfl) (h : X.K = K := by rfl) :
    PE X (.Call (.Name "dict" p) [.Call (.Name "zip" p2) [e, e2] [] pos2] [] pos) (tDictZ K ta) := by
  subst h
  refine ⟨fun pins s σ H Q I h => ?_⟩
  refine Call_ (ld_blt I hg hm PyProof.Rows.boot_dict (PyProof.Rows.callWith_type1 (args_cons ?_ na) na))
  refine Call_ (ld_blt I hg2 hm2 PyProof.Rows.boot_zip (PyProof.Rows.callWith_type1 (thn (ha.run pos2 pins s σ H _ I h) fun us s1 ⟨vs, H1, I1, r1, q1⟩ => ?_) hs hpl))
  obtain ⟨a, b, ks, ws, ex, hqx, hqy, hlen, hz, q⟩ := q1
  subst ex
  cases r1 with
  | cons r rr =>
    cases rr with
    | cons r' rr =>
      cases rr
      cases r
      cases r'
      obtain ⟨its, rv, p1, _⟩ := I1.list hqx
      obtain ⟨its2, rv2, p2, _⟩ := I1.tuple hqy
      have q1 : s1.heap.IsList a its.toArray := p1.isList
      have q2 : s1.heap.IsTuple b its2.toArray := p2
      have la : a < s1.heap.objs.size := p1.lt
      have lb : b < s1.heap.objs.size := let ⟨_, e, _⟩ := q2; Heap.lt_size e
      refine zip_begins2 (begins_list a its.toArray) (begins_tuple b its2.toArray) q1 q2 fun h' hz5 hTI hTO h1 h2 hsz hk => args_nil ?_
      obtain ⟨kvs, hkv, hl, hp⟩ := pairs_zip (P := X.prog) (w := X.w) rv rv2 hlen
      have l1 := rv.length
      have l2 := rv2.length
      rw [List.length_map] at l1
      have emin : min its.toArray.size its2.toArray.size = ks.length := by
        rw [List.size_toArray, List.size_toArray, ← l1, ← l2, ← hlen, Nat.min_self]
      have sep := zip_sep2 (N := s1.heap.objs.size) (fp1 := [a]) (fp2 := [b]) (fun c hc => by rw [List.mem_singleton.mp hc]; exact la) fun c hc => by rw [List.mem_singleton.mp hc]; exact lb
      have arg := zipArg (prog := X.prog) (w := X.w) sep (fun A hA => Draws.list hA _ a (Nat.ne_of_lt la) its.toArray) (fun A hA => Draws.tuple hA _ b (Nat.ne_of_lt (Nat.lt_succ_of_lt lb)) its2.toArray)
        (fun _ _ hk st => ⟨st.1.at fun o e => hk _ o e, st.2.at fun o e => hk _ o e⟩) (fun _ _ hk st => ⟨st.1.at fun o e => hk _ o e, st.2.at fun o e => hk _ o e⟩)
        (fun h st c hc => by
          obtain ⟨⟨o, e, _⟩, u, f, _⟩ := st
          rcases List.mem_cons.mp hc with rfl | hc
          · exact ⟨o, e⟩
          · rw [List.mem_singleton.mp hc]
            exact ⟨u, f⟩)
        (fun h st c hc => by
          obtain ⟨⟨o, e, _⟩, u, f, _⟩ := st
          rcases List.mem_cons.mp hc with rfl | hc
          · exact ⟨o, e⟩
          · rw [List.mem_singleton.mp hc]
            exact ⟨u, f⟩)
      refine PySem.call_dict_pairs (s := { s1 with heap := h' }) (knd := mixKind X.prog X.w) (kvs := kvs) arg (I1.ok.hd hc) ⟨hTI, ⟨⟨_, h1, rfl, rfl⟩, q1.at fun o e => hk _ o e⟩, ⟨⟨_, h2, rfl, rfl⟩, q2.at fun o e => hk _ o e⟩, hz5, _, _, hTO⟩ ⟨by rw [hl, emin], fun i key v hi => hp i key v (by simpa using hi.1) (by simpa using hi.2)⟩ (by rw [emin, sizeLine_eq]; omega) fun h2' tk hd hk2 => ?_
      have hk3 : ∀ b o, s1.heap.get? b = some o → h2'.get? b = some o := fun b o e => hk2 b o (fun hm => by
        have hlt := Heap.lt_size e
        simp only [List.mem_cons, List.not_mem_nil, or_false] at hm
        rcases hm with z | z | z | z
        · rw [z] at hlt; exact Nat.lt_irrefl _ (Nat.lt_of_le_of_lt (Nat.le_add_right _ _) hlt)
        · rw [z] at hlt; exact Nat.lt_irrefl _ (Nat.lt_of_le_of_lt (Nat.le_add_right _ _) hlt)
        · rw [z] at hlt; exact Nat.lt_irrefl _ hlt
        · rw [z] at hlt; exact Nat.lt_irrefl _ (Nat.lt_of_le_of_lt (Nat.le_add_right _ _) hlt)) (hk b o e)
      have hsz' : ({ s1 with heap := h' } : Shared).heap.objs.size = s1.heap.objs.size + 5 := hsz
      rw [hsz'] at hd ⊢
      have hle : s1.heap.objs.size ≤ s1.heap.objs.size + 5 := Nat.le_add_right _ _
      have hsys : (s1.heap.objs.size + 5 == sysModules) = false := beq_eq_false_iff_ne.mpr (Nat.ne_of_gt (Nat.lt_of_lt_of_le I1.big hle))
      have hlen2 : (mergeK [] (zipK ks ws)).length ≤ sizeLine := by
        refine Nat.le_trans (length_mergeK _ []) ?_
        unfold zipK
        rw [List.length_nil, Nat.zero_add, List.length_zip, List.length_map, ← hlen, Nat.min_self, sizeLine_eq]
        omega
      exact ⟨.ref (s1.heap.objs.size + 5), upd H1 (s1.heap.objs.size + 5) (.dK (mergeK [] (zipK ks ws))), I1.laid (t' := tk) hk3 hle (show ObjOk X.prog X.w _ _ _ (.dK (mergeK [] (zipK ks ws))) from ⟨hlen2, hsys, merged [] kvs, KV.merge hkv .nil, hd⟩), rfl, q _ (I1.hok.fresh hle)⟩
end
end Tr
/-! set(xs) of a list of ints, to be sorted -/
namespace Tr
open PySem PySem.Spec PyProof.Rows L2 Evl RZ
open PySem.F
section
variable {P : Program} {w : World} {A : Around} {E : Value → Shared → Prop} {s : Shared}
abbrev setO (w : World) : Obj := { cls := .type "set", dict := none, data := .set #[] 0 (.fresh 0 0 (!w.params.followText "set-order")) }
/-- set.__init__ of an empty set, given a list of ints -/
theorem set_init {N l : Addr} {items : Array Value} {ns : List Int} {R : Result → Shared → Prop} (hh : A.handled = none) (hS : s.heap.get? N = some (setO w)) (hl : s.heap.IsList l items) (hi : IntsAre items.toList ns) (hfew : ns.length ≤ 1000)
    (hR : ∀ (h' : Heap) (tk c : Nat), c ≤ ns.length → SetR w h' N (fun j => decide (j ∈ ns)) c → (∀ b o, b ≠ N → s.heap.get? b = some o → h'.get? b = some o) → R (.ok (.ret .none)) { s with heap := h', toks := tk }) :
    codeAny (model P w) A (.call (.builtin "set.__init__") ⟨[.ref N, .ref l], []⟩) R s := by
  have ty : s.TypeIs (.ref N) "set" := ⟨_, hS, rfl⟩
  have size : items.size = ns.length := by
    have := hi.length
    rwa [Array.length_toList] at this
  have vals : ∀ (i : Nat) (v : Value), items[i]? = some v → ∃ k t, ns[i]? = some k ∧ v = .int k t := fun i v hv => by
    obtain ⟨t, e⟩ := hi.int_at i v (by rwa [Array.getElem?_toList])
    have lt : i < ns.length := size ▸ (Array.getElem?_eq_some_iff.mp hv).1
    exact ⟨ns[i], t, List.getElem?_eq_getElem lt, e.trans (by rw [List.getD_eq_getElem?_getD, List.getElem?_eq_getElem lt]; rfl)⟩
  refine codeAny_call_builtin F.called_set.init.plain F.entry_set_init (check_set_init_1 ty ?_)
  have f1 := F.sub_list_set
  have f2 := F.sub_list_frozenset
  have f3 : (Value.type "list" == Value.type "dict") = false := by decide
  have nl : N ≠ l := fun q => by
    obtain ⟨o, e, hc, _⟩ := hl
    rw [← q, hS] at e
    cases e
    exact absurd hc (by simp)
  have lN : N < s.heap.objs.size := Heap.lt_size hS
  have ll : l < s.heap.objs.size := let ⟨_, e, _⟩ := hl; Heap.lt_size e
  have iter : ∀ {A' : Around} {E' : Value → Shared → Prop} {Q' : Value → Shared → Prop}, Q' (.ref s.heap.objs.size) { s with heap := s.heap.push { cls := .type "list_iterator", data := .fields #[.ref l, .int 0 0] } } → wpAny (model P w) A' (pyIter (.ref l)) Q' E' s := fun q => wpAny_pyIter_list hl q
  have tl : s.TypeIs (.ref l) "list" := let ⟨o, e, hc, _⟩ := hl; ⟨o, e, hc⟩
  unfold Builtin.«set.__init__» noKeywords Builtin.Frozenset.updateFrom
  wp_walk using iter
  have nI : l ≠ s.heap.objs.size := Nat.ne_of_lt ll
  have nf : N ∉ [s.heap.objs.size, l] := by
    simp only [List.mem_cons, List.not_mem_nil, or_false, not_or]
    exact ⟨Nat.ne_of_lt lN, nl⟩
  have keep : ∀ c o, s.heap.get? c = some o → (s.heap.push { cls := .type "list_iterator", data := .fields #[.ref l, .int 0 0] }).get? c = some o := fun c o e => Heap.get?_push_of_some _ e
  refine set_update_ints (Walks.list (A := A.in1.in1) (by simp [hh]) s.heap.objs.size l nI items).toS N nf ns size (by unfold scanBound; omega) vals items.size 0 _ (Nat.sub_zero _) (Nat.zero_le _) ⟨⟨_, Heap.get?_push_size _ rfl, rfl, rfl⟩, hl.at fun o e => keep _ o e⟩ ⟨0, Nat.le_refl _, setR_new_at (keep _ _ hS)⟩ fun s' c mv hc hs => ?_
  obtain ⟨h', g', d', tk', os'⟩ := s'
  obtain rfl : g' = s.gens := mv.gens
  obtain rfl : d' = s.drawn := mv.drawn
  obtain rfl : os' = s.os := mv.os
  refine wpAny_pure (wpAny_pure (hR h' tk' c (size ▸ hc) hs fun b o hb e => mv.heap b o ?_ (keep b o e)))
  simp only [List.mem_cons, List.not_mem_nil, or_false, not_or]
  exact ⟨hb, Nat.ne_of_lt (Heap.lt_size e)⟩
theorem set_of_ints {l : Addr} {items : Array Value} {ns : List Int} {Q : Value → Shared → Prop} (hh : A.handled = none) (hl : s.heap.IsList l items) (hi : IntsAre items.toList ns) (hfew : ns.length ≤ 1000)
    (h : ∀ (h' : Heap) (tk c : Nat), c ≤ ns.length → SetR w h' s.heap.objs.size (fun j => decide (j ∈ ns)) c → (∀ b o, s.heap.get? b = some o → h'.get? b = some o) → Q (.ref s.heap.objs.size) { s with heap := h', toks := tk }) :
    wpAny (model P w) A (call (.type "set") [.ref l]) Q E s := by
  have fresh : ∀ {b : Addr} {o : Obj}, s.heap.get? b = some o → b ≠ s.heap.objs.size := fun e => Nat.ne_of_lt (Heap.lt_size e)
  have new : ∀ {A' : Around} {R : Result → Shared → Prop}, R (.ok (.ret (.ref s.heap.objs.size))) { s with heap := s.heap.push (setO w) } → codeAny (model P w) A' (.call (.builtin "set.__new__") ⟨[.type "set", .ref l], []⟩) R s := fun q =>
    codeAny_mono (code_set_led1 (.ref l) (E := fun _ _ => False) (Q₁ := fun o u => o = .ref s.heap.objs.size ∧ u = { s with heap := s.heap.push (setO w) }) ⟨rfl, rfl⟩) fun r u hr => by
      match r, hr with
      | .ok (.ret _), ⟨e1, e2⟩ =>
        subst e1 e2
        exact q
  have hS : (s.heap.push (setO w)).get? s.heap.objs.size = some (setO w) := Heap.get?_push_size _ rfl
  have ty : Shared.TypeIs { s with heap := s.heap.push (setO w) } (.ref s.heap.objs.size) "set" := ⟨_, hS, rfl⟩
  have init : ∀ {A' : Around} {R : Result → Shared → Prop}, A'.handled = none → (∀ (h' : Heap) (tk c : Nat), c ≤ ns.length → SetR w h' s.heap.objs.size (fun j => decide (j ∈ ns)) c → (∀ b o, s.heap.get? b = some o → h'.get? b = some o) → R (.ok (.ret .none)) { s with heap := h', toks := tk }) →
      codeAny (model P w) A' (.call (.builtin "set.__init__") ⟨[.ref s.heap.objs.size, .ref l], []⟩) R { s with heap := s.heap.push (setO w) } := fun hA q =>
    set_init hA hS (hl.at fun o e => Heap.get?_push_of_some _ e) hi hfew fun h' tk c hc hs k => q h' tk c hc hs fun b o e => k b o (fresh e) (Heap.get?_push_of_some _ e)
  obtain ⟨c, tl, hmro⟩ := F.called_set.mro
  have g1 := F.called_set.made
  have g2 := F.called_set.sub
  have g3 := F.called_set.notType
  have g4 := F.called_set.canCreate
  have g5 := F.typeCall_set_1 (.ref l)
  have g6 := F.called_set.init.lookup
  have g7 := F.called_set.init.bind (.ref s.heap.objs.size)
  refine wpAny_call (codeAny_of_tree (wpAny_pure ⟨Code.quiet_builtin _ (by decide +kernel), codeAny_builtin F.entry_type_call ?_⟩))
  rw [Around.under_plain (weight_type_call_type "set" [.ref l] []) rfl]
  wp_walk using new
  refine init hh fun h' tk c hc hs k => ?_
  wp_walk
  exact h h' tk c hc hs k
end
section
variable {X : Cx}
def rSetI (K : PySem.W.Frag) (w : World) : List V → Hp → VK → Prop := fun xs H Q => ∃ (l : Addr) (ns : List Int), xs = [V.ref l] ∧ SqL K H l (ns.map V.int) ∧ ns.length ≤ 1000 ∧
  ∀ (a : Addr) (f : Int → Bool) (n : Nat) (ks : List Int), H a = none → (∀ k, f k = true ↔ k ∈ ns) → ks.Nodup → ks.length = n → (∀ k, k ∈ ks ↔ k ∈ ns) → Q (.ref a) (upd H a (SetO w a f n))
theorem cr_setI (K : PySem.W.Frag) (w : World) (hc : X.calm = true) (h : X.K = K := by rfl) (hw : X.w = w := by rfl) : CallR X (.type "set") (rSetI K w) := fun pins s σ H xs us Q I r ⟨l, ns, e, hl, hz, q⟩ => by
  subst h hw e
  rw [Vals.ref1 r]
  obtain ⟨its, rv, pl, _⟩ := I.list hl
  refine set_of_ints (P := X.prog) (w := X.w) (ns := ns) (I.ok.hd hc) pl.isList (by simpa using rv.ints) hz fun h' tk c _ R k => ?_
  have R' := R
  obtain ⟨o, es, ep, t, _, _, _, _, nd, mem, _, _, hsz, _⟩ := R'
  have memb : ∀ k, (fun j => decide (j ∈ ns)) k = true ↔ k ∈ ns := fun k => decide_eq_true_iff
  exact ⟨.ref s.heap.objs.size, upd H s.heap.objs.size (SetO X.w s.heap.objs.size (fun j => decide (j ∈ ns)) c), I.laid (t' := tk) k (Nat.le_refl _) (setO_new R), rfl,
    q _ _ c (es.toList.map keyOf) (I.hok.fresh (Nat.le_refl _)) memb nd (by rw [List.length_map, Array.length_toList]; exact hsz) fun k => (mem k).symm.trans (memb k)⟩
end
end Tr
/-! sorted of a list of tuples of ints -/
namespace Tr
open PySem PySem.Spec PyProof.Rows L2 Evl RZ
section
variable {X : Cx} {T : Type}
/-- x is the tuple of these ints -/
def TupIs (K : PySem.W.Frag) (en : T → List Int) (H : Hp) (x : V) (t : T) : Prop := ∃ p, x = .ref p ∧ SqT K H p ((en t).map V.int)
def encT (en : T → List Int) (z : V × T) : PyData := .tuple ((en z.2).map .int)
theorem vals_each : ∀ {xs : List V} {us : List Value} {ts : List T}, Vals xs us → xs.length = ts.length → PySem.W.EachIs (fun v (b : V × T) => RelV b.1 v) us (xs.zip ts)
  | _, _, [], .nil, _ => .nil
  | _, _, t :: ts, .nil, h => by simp at h
  | _, _, [], .cons _ _, h => by simp at h
  | _, _, t :: ts, .cons r rr, h => .cons r (vals_each rr (by simpa using h))
theorem each_vals : ∀ {zs : List (V × T)} {us : List Value}, PySem.W.EachIs (fun v (b : V × T) => RelV b.1 v) us zs → Vals (zs.map (·.1)) us
  | _, _, .nil => .nil
  | _, _, .cons r rr => .cons r (each_vals rr)
theorem zip_paired {R : V → T → Prop} : ∀ {xs : List V} {ts : List T}, Paired R xs ts → ∀ z ∈ xs.zip ts, R z.1 z.2
  | _, _, .nil, z, h => by simp at h
  | _, _, .cons a t, z, h => by
    rw [List.zip_cons_cons, List.mem_cons] at h
    rcases h with h | h
    · rw [h]; exact a
    · exact zip_paired t z h
theorem paired_zip {R : V → T → Prop} : ∀ {zs : List (V × T)}, (∀ z ∈ zs, R z.1 z.2) → Paired R (zs.map (·.1)) (zs.map (·.2))
  | [], _ => .nil
  | z :: r, h => .cons (h z (List.mem_cons_self ..)) (paired_zip fun y hy => h y (List.mem_cons_of_mem _ hy))
theorem sort_gen {pins : List (Addr × Obj)} {σ : L2.St} {H : Hp} {s : Shared} {Q : VK} {a : Addr} {xs : List V} {ts : List T} (en : T → List Int) (I : Inv X pins σ H s) (hs : SqL X.K H a xs) (hx : Paired (TupIs X.K en H) xs ts) (h0 : ∀ t ∈ ts, en t ≠ []) {j : Nat} (hr : Room j X.A)
    (q : ∀ (zs : List (V × T)) (p : Addr), zs = (xs.zip ts).mergeSort (PySem.W.dataLe false (encT en)) → Paired (TupIs X.K en H) (zs.map (·.1)) (zs.map (·.2)) → H p = none → Q (.ref p) (upd H p (.lst (zs.map (·.1))))) :
    wpAny (model X.prog X.w) X.A (call (.builtin "sorted") [.ref a]) (EP X pins σ Q) X.xe s := by
  obtain ⟨its, rv, hl, hz⟩ := I.list hs
  have hlen := seq_len hx
  have hmem := zip_paired hx
  have e := vals_each rv hlen
  have er : PySem.W.EachIs (fun v (b : V × T) => ∃ as, PySem.Reads s.heap v (encT en b) as) its (xs.zip ts) := by
    have key : ∀ {zs : List (V × T)} {us : List Value}, PySem.W.EachIs (fun v (b : V × T) => RelV b.1 v) us zs → (∀ z ∈ zs, TupIs X.K en H z.1 z.2) → PySem.W.EachIs (fun v (b : V × T) => ∃ as, PySem.Reads s.heap v (encT en b) as) us zs := by
      intro zs us h
      induction h with
      | nil => exact fun _ => .nil
      | @cons u z us zs r t ih =>
        intro hm
        refine .cons ?_ (ih fun y hy => hm y (List.mem_cons_of_mem _ hy))
        obtain ⟨p, e1, e2⟩ := hm z (List.mem_cons_self ..)
        rw [e1] at r
        obtain rfl : u = Value.ref p := r
        obtain ⟨its2, rv2, hT, _⟩ := I.tuple e2
        exact PySem.W.holds_tup (α := Int) (xs := en z.2) (isTuple_of hT) (PySem.W.HoldAll.of_ints rv2.ints)
    exact key e hmem
  have hlz : (xs.zip ts).length = xs.length := by rw [List.length_zip, ← hlen, Nat.min_self]
  refine PySem.W.sorted_data (enc := encT en) hl.isList e er (fun d hd d' hd' => ?_) (.inl fun d hd => ?_) (by rw [hlz]; exact hz) (fun b _ => ?_) fun out h1 h2 => ?_
  · obtain ⟨b, _, rfl⟩ := List.mem_map.mp hd
    obtain ⟨b', _, rfl⟩ := List.mem_map.mp hd'
    show PySem.W.alike (.tuple _) (.tuple _) = true
    simp only [PySem.W.alike]
    exact PySem.W.alike_ints _ _
  · obtain ⟨b, hb, rfl⟩ := List.mem_map.mp hd
    have hb2 : b.2 ∈ ts := (List.of_mem_zip (a := b.1) (b := b.2) hb).2
    cases hen : en b.2 with
    | nil => exact absurd hen (h0 _ hb2)
    | cons n r => exact ⟨.int n, r.map .int, by unfold encT; rw [hen]; rfl⟩
  · have hd : (encT en b).depth = 1 := by
      unfold encT
      simp only [PyData.depth, PySem.W.depth_ints]
    have := hr.un
    omega
  · have hpm := List.mergeSort_perm (xs.zip ts) (PySem.W.dataLe false (encT en))
    obtain ⟨ep, he'⟩ := PyProof.Rows.sortedAll_at s.heap its out.toArray
    have hl2 : (((xs.zip ts).mergeSort (PySem.W.dataLe false (encT en))).map (·.1)).length ≤ sizeLine := by
      rw [List.length_map, hpm.length_eq, hlz]
      exact hz
    exact ⟨.ref _, upd H (s.heap.objs.size + 1) (.lst (((xs.zip ts).mergeSort (PySem.W.dataLe false (encT en))).map (·.1))), I.laid (t' := s.toks) (fun _ _ => PyProof.Rows.sortedAll_old) (Nat.le_succ _) ⟨hl2, out, ep, each_vals h2, he'⟩, rfl,
      q _ _ rfl (paired_zip fun z hz => hmem z (hpm.mem_iff.mp hz)) (I.hok.fresh (Nat.le_succ _))⟩
theorem snd_zip {xs : List V} {ts : List T} (h : xs.length = ts.length) : (xs.zip ts).map (·.2) = ts := List.map_snd_zip (by omega)
/-- sorted of tuples of any lengths: the same in some order -/
def rSortedTs (K : PySem.W.Frag) : List V → Hp → VK → Prop := fun vs H Q => ∃ (a : Addr) (xs : List V) (ts : List (List Int)), vs = [.ref a] ∧ SqL K H a xs ∧ Paired (TupIs K id H) xs ts ∧ (∀ t ∈ ts, t ≠ []) ∧
  ∀ (zs : List (V × List Int)) (p : Addr), zs.Perm (xs.zip ts) → H p = none → Q (.ref p) (upd H p (.lst (zs.map (·.1))))
theorem cr_sortedTs (K : PySem.W.Frag) {j : Nat} (hr : Room j X.A) (h : X.K = K := by rfl) : CallR X (.builtin "sorted") (rSortedTs K) := by
  subst h
  intro pins s σ H vs us Q I r h
  obtain ⟨a, xs, ts, rfl, hs, hx, h0, q⟩ := h
  rw [Vals.ref1 r]
  exact sort_gen (T := List Int) id I hs hx h0 hr fun zs p hz hp hn => q zs p (hz ▸ List.mergeSort_perm _ _) hn
/-- sorted of pairs -/
def rSortedE (K : PySem.W.Frag) : List V → Hp → VK → Prop := fun vs H Q => ∃ (a : Addr) (xs : List V) (ts : List (Int × Int)), vs = [.ref a] ∧ SqL K H a xs ∧ Paired (TupIs K (fun e : Int × Int => [e.1, e.2]) H) xs ts ∧
  ∀ (zs : List (V × (Int × Int))) (p : Addr), zs.Perm (xs.zip ts) → (zs.map (·.2)).Pairwise (fun e f => e.1 < f.1 ∨ (e.1 = f.1 ∧ e.2 ≤ f.2)) → H p = none → Q (.ref p) (upd H p (.lst (zs.map (·.1))))
theorem cr_sortedE (K : PySem.W.Frag) {j : Nat} (hr : Room j X.A) (h : X.K = K := by rfl) : CallR X (.builtin "sorted") (rSortedE K) := by
  subst h
  intro pins s σ H vs us Q I r h
  obtain ⟨a, xs, ts, rfl, hs, hx, q⟩ := h
  rw [Vals.ref1 r]
  refine sort_gen (T := Int × Int) (fun e => [e.1, e.2]) I hs hx (fun _ _ z => nomatch z) hr fun zs p hz hp hn => q zs p (hz ▸ List.mergeSort_perm _ _) ?_ hn
  · have el : PySem.W.dataLe false (encT fun e : Int × Int => [e.1, e.2]) = fun (z y : V × (Int × Int)) => decide (z.2.1 < y.2.1 ∨ (z.2.1 = y.2.1 ∧ z.2.2 ≤ y.2.2)) := PySem.W.dataLe_ii (fun z : V × (Int × Int) => z.2.1) (fun z => z.2.2)
    rw [el] at hz
    have hp2 := List.pairwise_mergeSort (le := fun (z y : V × (Int × Int)) => decide (z.2.1 < y.2.1 ∨ (z.2.1 = y.2.1 ∧ z.2.2 ≤ y.2.2))) (fun a b c h1 h2 => by
      rw [decide_eq_true_eq] at h1 h2 ⊢
      omega) (fun a b => by
      rw [Bool.or_eq_true, decide_eq_true_eq, decide_eq_true_eq]
      omega) (xs.zip ts)
    rw [← hz] at hp2
    rw [List.pairwise_map]
    exact hp2.imp fun h => of_decide_eq_true h
theorem cr_sortedSet' (w : World) (hc : X.calm = true) (hw : X.w = w := by rfl) : CallR X (.builtin "sorted") (rSortedSet w) := hw ▸ cr_sortedSet hc
end
end Tr
/-! sorted(range(n), key=lambda x: (a[x], x)) -/
namespace Tr
open PySem PySem.Spec PyProof.Rows L2 Evl RZ
section
variable {prog : Program} {w : World} {A : Around} {E : Value → Shared → Prop} {s : Shared}
/-- the key of one item -/
theorem key_turn {f c' cA p : Addr} {pm ctv : Value} {qual x a : Str} {params : Arguments} {scope : Scope} {clo : List (Str × Addr)} {items : Array Value} {i : Nat} {d : Int} {td t : Tok} {p1 p2 p3 p4 p5 : Pos} {kk : Nat}
    (hdepth : A.depth < recursionLimit)
    (hf : s.heap.get? f = some (PySem.W.kla_obj "<lambda>" qual params (.Tuple [.Subscript (.Name a p1) (.Name x p2) p3, .Name x p4] kk p5) scope clo pm c' ctv))
    (hk : scope.kind = .function) (hco : scope.isCoroutine = false) (hg : scope.isGenerator = false) (hx : scope.names.lookup x = some .local) (ha : scope.names.lookup a = some .free) (hnc : ∀ y ∈ scope.names, y.2 ≠ .cell)
    (hcl : clo.lookup a = some cA) (hcell : s.heap.IsCell cA (some (.ref p))) (hl : s.heap.IsList p items) (hi0 : items[i]? = some (.int d td)) (hi : i < 2 ^ 62)
    (hcd : s.heap.CodeRec (.ref c') qual) (hnl : s.heap.NoLimit)
    (hbind : ∀ v : Value, bindArgs (PySem.W.kla_fn "<lambda>" qual params (.Tuple [.Subscript (.Name a p1) (.Name x p2) p3, .Name x p4] kk p5) scope clo pm (.ref c') ctv) ⟨[v], []⟩ = pure [(x, v)])
    (hdx : (x == ("__debug__" : Str)) = false) (hda : (a == ("__debug__" : Str)) = false) (hca : (a == ("__classdict__" : Str)) = false) :
    wpAny (model prog w) A (call (.ref f) [.int i t]) (PySem.W.KeyPure (.tuple [.int d, .int i]) s) (fun _ _ => False) s := by
  refine wpAny_call ?_
  refine PySem.W.kla_callFunE hdepth hf rfl hco hg rfl hcd ?_
  rw [hbind]
  refine wpAny_pure (wpAny_newFunctionEnv hnc (fun y hy => ?_) (fun h₁ hns hsb => ⟨?_, ?_⟩) hk)
  · rw [List.mem_singleton] at hy
    rw [hy]
    exact hx
  · exact hnl.fresh _ hsb
  · show codeAny _ _ (.expr (.Tuple [.Subscript (.Name a p1) (.Name x p2) p3, .Name x p4] kk p5) (PySem.W.envX qual scope s.heap.objs.size f (.ref c') clo)) _ _
    have kp : ∀ b o, s.heap.get? b = some o → h₁.get? b = some o := fun b o e => hsb.extBut b o (Nat.ne_of_lt (Heap.lt_size e)) (Heap.get?_push_of_some _ e)
    refine PySem.W.kla_codeExpr ?_
    have hcell1 : h₁.IsCell cA (some (.ref p)) := by
      obtain ⟨o, ho, hd⟩ := hcell
      exact ⟨o, kp _ _ ho, hd⟩
    have hl1 : h₁.IsList p items := hl.at fun o e => kp _ o e
    have hl2 : [(x, Value.int (i : Int) t)].reverse.lookup x = some (.int (i : Int) t) := by
      simp [List.lookup]
    have ldX : ∀ {Q : Value → Shared → Prop} {E : Value → Shared → Prop} {A' : Around} {tk : Tok} {pp : Pos}, Q (.int i t) { s with heap := h₁, toks := tk } → wpAny (model prog w) A' (eval (.Name x pp) (PySem.W.envX qual scope s.heap.objs.size f (.ref c') clo)) Q E { s with heap := h₁, toks := tk } := fun {Q E A' tk pp} q =>
      wpAny_Name (wpAny_loadName_local (m := fun y => [(x, Value.int (i : Int) t)].reverse.lookup y) hk hx hns hl2 q) hdx
    refine wpAny_Tuple_spliced ?_
    show wpAny _ _ (spliced [(false, eval (.Subscript (.Name a p1) (.Name x p2) p3) _), (false, eval (.Name x p4) _)]) _ _ _
    refine Calls.spliced_cons (Subscript_ (wpAny_Name (wpAny_loadName_free (c := cA) (v := .ref p) hk ha hcl hcell1 (ldX ?_) hca) hda))
    refine item_listR hl1 (by omega) (by omega) (by rw [Int.toNat_natCast]; exact hi0) ?_ (by with_unfolding_all rfl)
    refine Calls.spliced_cons (ldX ?_)
    refine Calls.spliced_nil ⟨by show 2 ≤ sizeLine; decide, ?_⟩
    refine ⟨h₁.push { cls := .type "tuple", data := .seq [Value.int d td, .int i t].toArray }, _, rfl, fun b o e => Heap.get?_push_of_some _ (kp b o e), ?_⟩
    refine .tuple (Heap.get?_push_size _ rfl) rfl rfl (.cons (as := []) (bs := []) (.int d td) (.cons (as := []) (bs := []) (.int (i : Int) t) .nil))
theorem iadd_range {R : Result → Shared → Prop} {L r : Addr} {a b c : Int} {t u v : Tok} {n : Nat} (hh : A.handled = none) (hL : s.heap.get? L = some { cls := .type "list", data := .seq #[] }) (hr : IsRange s.heap r a b c t u v) (hsmall : Builtin.Range.small a b c = true)
    (hn : Builtin.Range.rangeSize a b c = n) (hlen : n ≤ 2 ^ 24)
    (h : ∀ (h' : Heap) (tk : Nat) (acc : Array Value) (e : Nat), (∀ b o, b ≠ L → s.heap.get? b = some o → h'.get? b = some o) → h'.get? L = some { cls := .type "list", dict := none, data := .seq acc e, slots := #[] } → ItemsOf (fun i v => ∃ t, v = .int (a + i * c) t) acc n → R (.ok (.ret (.ref L))) { s with heap := h', toks := tk }) :
    codeAny (model prog w) A (.builtin "list.__iadd__" ⟨[.ref L, .ref r], []⟩) R s := by
  refine codeAny_builtin entry_list_iadd' ?_
  rw [Around.under_plainId F.plain_list_iadd _]
  exact wpAny_extend_range hh hr hsmall hn hlen L (.ref L) 0 hL h
theorem collect_range {R : List Value → Shared → Prop} {r : Addr} {a b c : Int} {t u v : Tok} {n : Nat} (hh : A.handled = none) (hr : IsRange s.heap r a b c t u v) (hsmall : Builtin.Range.small a b c = true)
    (hn : Builtin.Range.rangeSize a b c = n) (hlen : n ≤ 2 ^ 24)
    (h : ∀ (h' : Heap) (tk : Nat) (acc : Array Value), (∀ b o, s.heap.get? b = some o → h'.get? b = some o) → s.heap.objs.size < h'.objs.size → ItemsOf (fun i v => ∃ t, v = .int (a + i * c) t) acc n → R acc.toList { s with heap := h', toks := tk }) : wpAny (model prog w) A (collect (.ref r)) R E s := by
  have add : ∀ {A' : Around} {R' : Result → Shared → Prop}, A'.handled = none → _ := fun {A'} {R'} hA => iadd_range (prog := prog) (w := w) (A := A') (R := R') (s := { s with heap := s.heap.push { cls := .type "list", data := .seq #[] } }) (n := n) hA (Heap.get?_push_size _ rfl) (show IsRange _ r a b c t u v from Heap.get?_push_of_some _ hr) hsmall hn hlen
  unfold collect
  refine wpAny_bind (wpAny_runValue (codeAny_builtin entry_proto_collect' ?_))
  wp_walk
  refine ⟨plainId_quiet F.plain_list_iadd _, add hh fun h' tk acc e k g it => ?_⟩
  wp_walk
  exact h h' tk acc (fun b o q => k b o (Nat.ne_of_lt (Heap.lt_size q)) (Heap.get?_push_of_some _ q)) (Heap.lt_size g) it
def keyD (d : Nat → Int) (i : Nat) : PyData := .tuple [.int (d i), .int (i : Int)]
abbrev isNatV (v : Value) (i : Nat) : Prop := ∃ t, v = .int (i : Int) t
theorem each_range {l : List Value} {n : Nat} (hl : l.length = n) (h : ∀ (i : Nat) (v : Value), l[i]? = some v → isNatV v i) : PySem.W.EachIs isNatV l (List.range n) := by
  refine PySem.W.EachIs.of_zip (by rw [List.length_range]; exact hl) fun p hp => ?_
  obtain ⟨j, hj⟩ := List.getElem?_of_mem hp
  obtain ⟨h1, h2⟩ := List.getElem?_zip_eq_some.mp hj
  have hjn : j < n := by
    have := (List.getElem?_eq_some_iff.mp h2).1
    rw [List.length_range] at this
    exact this
  rw [List.getElem?_range hjn] at h2
  have e := Option.some.inj h2
  rw [← e]
  exact h j _ h1
theorem sorted_range_key {r f : Addr} {n : Nat} {t u v : Tok} {Q : Value → Shared → Prop} (d : Nat → Int) (hh : A.handled = none) (hr : IsRange s.heap r 0 n 1 t u v) (hn : n ≤ 1000) (hu : A.units + 8 < cLine)
    (turn : ∀ (i : Nat) (ti : Tok), i < n → ∀ (h : Heap) (tk : Nat), (∀ b o, s.heap.get? b = some o → h.get? b = some o) → wpAny (model prog w) A.in1.in1 (call (.ref f) [.int (i : Int) ti]) (PySem.W.KeyPure (keyD d i) { s with heap := h, toks := tk }) (fun _ _ => False) { s with heap := h, toks := tk })
    (h : ∀ D out c h' tk, (∀ b o, s.heap.get? b = some o → h'.get? b = some o) → s.heap.objs.size ≤ D → h'.get? D = some (seqObj "list" (List.toArray out) c) → PySem.W.EachIs isNatV out ((List.range n).mergeSort (PySem.W.dataLe false (keyD d))) → Q (.ref D) { s with heap := h', toks := tk }) :
    wpAny (model prog w) A (call (.builtin "sorted") [.ref r] [(Str.ofString "key", .ref f)]) Q E s := by
  refine call_function_entry_kw kind_sorted plain_sorted entry_sorted (PyProof.Rows.ksk_s1 _ _) ?_
  unfold Builtin.«sorted»
  refine wpAny_bind (m := checkCount "sorted" 1 1 _) (wpAny_pure ?_)
  refine wpAny_bind (collect_range (A := A.in1) (n := n) hh hr (small_one (by omega) (by omega) (by omega) (by omega)) (by rw [rangeSize_nat]; omega) (by omega) fun h' tk acc hk hle hi => ?_)
  have hal : acc.toList.length = n := by rw [Array.length_toList]; exact hi.1
  have he : PySem.W.EachIs isNatV acc.toList (List.range n) := each_range hal fun i v hv => by
    obtain ⟨t, e⟩ := hi.2 i v (by rw [← hv, Array.getElem?_toList])
    exact ⟨t, by rw [e]; simp⟩
  refine wpAny_bind (wpAny_newList ?_ (by rw [hal, sizeLine_eq]; omega))
  have hob : (h'.push { cls := .type "list", data := .seq acc.toList.toArray }).get? h'.objs.size = some (seqObj "list" acc.toList.toArray 0) := Heap.get?_push_size _ rfl
  have kb : ∀ b o, s.heap.get? b = some o → (h'.push { cls := .type "list", data := .seq acc.toList.toArray }).get? b = some o := fun b o e => Heap.get?_push_of_some _ (hk b o e)
  have ne0 : ∀ b o, s.heap.get? b = some o → b ≠ h'.objs.size := fun b o e => Nat.ne_of_lt (Nat.lt_trans (Heap.lt_size e) hle)
  generalize hD : h'.objs.size = D at hob ne0 hle ⊢
  generalize hh2 : h'.push { cls := .type "list", data := .seq acc.toList.toArray } = h2 at hob kb ⊢
  have up : ∀ {g : Heap}, PySem.W.KeepsBut D h2 g → ∀ b o, s.heap.get? b = some o → g.get? b = some o := fun {g} kp b o e => kp b o (ne0 b o e) (kb b o e)
  have hdep : ∀ i, (keyD d i).depth = 1 := fun i => by
    show (PyData.tuple [.int (d i), .int (i : Int)]).depth = 1
    simp [PyData.depth, PyData.depthAll]
  refine wpAny_bind (wpAny_holding (wpAny_call_entry_kw slot_list_sort ⟨_, hob, rfl⟩ entry_list_sort ?body (PyProof.Rows.ksk_l1 _ _)))
  case body =>
    show wpAny (model prog w) A.in1.in1 (Builtin.«list.sort» ⟨[.ref D], [(Str.ofString "key", .ref f)]⟩) _ _ { s with heap := h2, toks := tk }
    rw [PyProof.Rows.ksk_t1]
    refine PySem.W.keyH_tree (kz := (List.range n).map (keyD d)) (s := { s with heap := h2, toks := tk }) hob (by rw [List.length_map, List.length_range, hal]) (by rw [hal, sizeLine_eq]; omega) (PySem.W.AllAlike.of fun _ _ => by simp [keyD, PySem.W.alike, PySem.W.alikeAll]) (PySem.W.Sortable.tuples fun _ => ⟨_, _, rfl⟩)
      (PySem.W.bound_map (A := A.in1.in1) fun i _ => by
        have := hdep i
        show A.units + 1 + 1 + _ < cLine
        omega)
      (PySem.W.keyH_turns (s := { s with heap := h2, toks := tk }) he fun v i hR hx h3 tk3 kp => ?_) fun h3 tk3 out c kp hD3 ko => ⟨_, rfl, wpAny_pure ⟨_, rfl, ?_⟩⟩
    · obtain ⟨ti, e⟩ := hR
      subst e
      exact turn i ti (List.mem_range.mp hx) h3 tk3 (up kp)
    · exact h D out c h3 tk3 (up kp) (Nat.le_of_lt hle) hD3 (PySem.W.keyedOut_each (keyD d) ko he)
end
section
open LamX
variable {X : Cx}
theorem sql_extN {K : PySem.W.Frag} {H H' : Hp} {p : Addr} {xs : List V} (e : ExtN H H') (h : SqL K H p xs) : SqL K H' p xs := by
  rcases h with (h | ⟨o, h⟩) | h
  · exact .inl (.inl (e _ _ h fun _ z => nomatch z))
  · exact .inl (.inr ⟨o, e _ _ h fun _ z => nomatch z⟩)
  · exact .inr h
def KeyLe (ds : List Int) (i j : Nat) : Prop := ds.getD i 0 < ds.getD j 0 ∨ (ds.getD i 0 = ds.getD j 0 ∧ i ≤ j)
def tSortKey (K : PySem.W.Frag) (T : List (Addr × Str)) (te : TE) (ia : Nat) : TE := fun σ H Q => te σ H fun v H1 => ∃ (n : Nat) (pa : Addr) (ds : List Int), v = .int (n : Int) ∧ n ≤ 1000 ∧ σ[ia]? = some (some (.ref pa)) ∧ SqL K H1 pa (ds.map V.int) ∧ ds.length = n ∧ Tabs T H1 ∧
  ∀ (H2 : Hp) (D : Addr) (ns : List Nat), ExtN H1 H2 → H2 D = none → ns.Perm (List.range n) → ns.Pairwise (KeyLe ds) → Q (.ref D) (upd H2 D (.lst (ns.map nV)))
theorem vals_nats : ∀ {out : List Value} {ns : List Nat}, PySem.W.EachIs isNatV out ns → Vals (ns.map nV) out
  | _, _, .nil => .nil
  | _, _, .cons r t => .cons r (vals_nats t)
theorem pe_sortKey {K : PySem.W.Frag} {T : List (Addr × Str)} {c P : Addr} {e : Expr} {te : TE} {ia j kk : Nat} {x a : Str} {params : Arguments} {scope : Scope} {p p2 pos pos2 p1' p2' p3' p4' p5' lpos kp : Pos}
    (hc : X.calm = true) (hg : Gl X "sorted") (hm : X.mg "sorted" = none) (hg2 : Gl X "range") (hm2 : X.mg "range" = none) (he : PE X e te) (hN : X.N[ia]? = some a) (hva : X.env.scope.names.lookup a = some .cell)
    (hk : scope.kind = .function) (hco : scope.isCoroutine = false) (hgn : scope.isGenerator = false) (hnm : scope.names = [(x, .local), (a, .free)]) (hxa : (a == x) = false)
    (TB : TabB X.base X.mg c P) (hcode : X.env.code = .ref c) (hmT : (P, X.env.qual ++ "<lambda>") ∈ T) (hu : ∀ p ∈ T, p.1 = P → p.2 = X.env.qual ++ "<lambda>") (hr : Room j X.A) (hdef : defaultsOf params X.env = ([], []))
    (hbind : ∀ (q : Str) (cl : List (Str × Addr)) (pm cv ctv v : Value), bindArgs (PySem.W.kla_fn "<lambda>" q params (.Tuple [.Subscript (.Name a p1') (.Name x p2') p3', .Name x p4'] kk p5') scope cl pm cv ctv) ⟨[v], []⟩ = pure [(x, v)])
    (hdx : (x == ("__debug__" : Str)) = false := by decide) (hda : (a == ("__debug__" : Str)) = false := by decide) (hca : (a == ("__classdict__" : Str)) = false := by decide)
    (na : starEach [e] X.env = (false, eval e X.env) :: starEach [] X.env := by rfl) (h : X.K = K := by rfl) :
    PE X (.Call (.Name "sorted" p) [.Call (.Name "range" p2) [e] [] pos2] [⟨some "key", .Lambda params (.Tuple [.Subscript (.Name a p1') (.Name x p2') p3', .Name x p4'] kk p5') scope lpos, kp⟩] pos) (tSortKey K T te ia) := by
  subst h
  refine ⟨fun pins s σ H Q I h => ?_⟩
  refine wpAny_Call_Name_kw (ld_blt I hg hm (u := .builtin "sorted") (by first | rfl | decide +kernel) ?_ (by first | decide +kernel | decide) (by first | decide +kernel | decide))
  refine PyProof.Rows.callWith_kw ?_ rfl rfl rfl rfl
  show wpAny _ _ (spliced [(false, eval (.Call (.Name "range" p2) [e] [] pos2) X.env)]) _ _ s
  refine Calls.spliced_cons ?_
  refine Call_ (ld_blt I hg2 hm2 boot_range (PyProof.Rows.callWith_type1 (one_arg he I h (fun v s1 y H1 I1 r1 q1 => ?_) na) na))
  obtain ⟨n, pa, ds, ev, hn, hσ, hl, hlen, hT, q⟩ := q1
  subst ev
  obtain ⟨t, rfl⟩ := r1
  refine call_range_1 ?_
  refine Calls.spliced_nil ?_
  have nr : H1 s1.heap.objs.size = none := I1.hok.fresh (Nat.le_refl _)
  have I2 : Inv X pins σ (upd H1 s1.heap.objs.size (.rng 0 (n : Int))) { s1 with heap := s1.heap.push { cls := .type "range", data := .fields #[.int 0 s1.toks, .int (n : Int) t, .int 1 (s1.toks + 1)] }, toks := s1.toks + 1 + 1 } :=
    I1.laid (t' := s1.toks + 1 + 1) (fun b o e => Heap.get?_push_of_some _ e) (Nat.le_refl _) ⟨_, _, _, Heap.get?_push_size _ rfl⟩
  have x1 : ∀ b o, H1 b = some o → upd H1 s1.heap.objs.size (.rng 0 (n : Int)) b = some o := fun b o e => by
    rw [upd_ne (ne_of_none e nr)]
    exact e
  have hfree : ∀ y ∈ scope.names, y.2 = .free → ∃ c, X.env.cells.lookup y.1 = some c := fun y hy e => by
    rw [hnm] at hy
    simp only [List.mem_cons, List.not_mem_nil, or_false] at hy
    rcases hy with z | z
    · rw [z] at e; cases e
    · rw [z]; exact I1.ok.has _ (.inl hva)
  refine wpAny_evalAll_cons (wpAny_bind (lam_make2 I2 TB hcode hmT hu (hT.ext x1) hdef hfree fun f c' pm ctv H2 s2 I3 eN T2 hf hfn hfr hco' => wpAny_bind (wpAny_standAt (wpAny_pure (wpAny_evalAll_nil ?_)))))
  show wpAny _ _ (call (.builtin "sorted") [.ref s1.heap.objs.size] [(Str.ofString "key", .ref f)]) _ _ s2
  have hrng : H2 s1.heap.objs.size = some (.rng 0 (n : Int)) := eN _ _ upd_same fun _ z => nomatch z
  obtain ⟨t1, t2, t3, hrg⟩ := (show ObjOk X.prog X.w H2 s2.heap _ (.rng 0 (n : Int)) from I3.hok _ _ hrng)
  have eN1 : ExtN H1 H2 := (ExtN.of x1).trans eN
  obtain ⟨its, rv, pl, _⟩ := I3.list (sql_extN eN1 hl)
  have hints := rv.ints
  obtain ⟨m, hnss, hlk⟩ := I3.loc
  obtain ⟨u, ru, lk⟩ := hlk ia a _ hN hσ (.inr (.inl hva))
  obtain rfl : u = Value.ref pa := ru
  obtain ⟨cA, hcA, hcell⟩ : ∃ cA, X.env.cells.lookup a = some cA ∧ s2.heap.IsCell cA (some (.ref pa)) := by
    rcases lk with ⟨k', _⟩ | ⟨_, c3, e', z⟩
    · have k2 : X.env.scope.names.lookup a = some .local := k'
      rw [hva] at k2
      cases k2
    · exact ⟨c3, e', z⟩
  have hclo : (cloFrom X.env.cells scope.names []).lookup a = some cA := by
    obtain ⟨c2, h2⟩ := mem_lookup (cloFrom_has (cells := X.env.cells) (acc := []) (show (a, NameKind.free) ∈ scope.names by rw [hnm]; simp))
    rcases cloFrom_mem (PySem.mem_of_lookup h2) with hmem | ⟨h3, h4⟩
    · cases hmem
    · rw [h2, h4, hcA]
      rfl
  obtain ⟨⟨oc, vs, tc, hoc, hdc, hvc⟩, _, _⟩ := I3.hok c' _ hco'
  have hdl := IntsAre.length hints
  refine sorted_range_key (n := n) (fun i => ds.getD i 0) (I3.ok.hd hc) hrg hn (by have := hr.un; omega) (fun i ti hi h3 tk3 kp => ?_) fun D out c4 h4 tk4 kp hD hlD ho => ?_
  · have hlt : i < its.length := by omega
    have hit : its[i]? = some its[i] := List.getElem?_eq_getElem hlt
    obtain ⟨td, etd⟩ := IntsAre.int_at hints i _ hit
    rw [etd] at hit
    refine key_turn (s := { s2 with heap := h3, toks := tk3 }) (A := X.A.in1.in1) (items := its.toArray) (td := td) (cA := cA) (p := pa) hr.depth (kp _ _ hf) hk hco hgn ?_ ?_ ?_ hclo ?_ (pl.isList.at fun o e => kp _ o e) (by simpa using hit) (by omega) ⟨c', oc, vs, tc, rfl, kp _ _ hoc, hdc, hvc⟩ (I3.nolimit.keeps kp) (fun v => hbind _ _ _ _ _ v) hdx hda hca
    · rw [hnm]; simp [List.lookup]
    · rw [hnm]; simp [List.lookup, hxa]
    · intro y hy
      rw [hnm] at hy
      simp only [List.mem_cons, List.not_mem_nil, or_false] at hy
      rcases hy with z | z
      · rw [z]; exact fun q => nomatch (show NameKind.local = NameKind.cell from q)
      · rw [z]; exact fun q => nomatch (show NameKind.free = NameKind.cell from q)
    · obtain ⟨o, ho, hd⟩ := hcell
      exact ⟨o, kp _ _ ho, hd⟩
  · have hpm : ((List.range n).mergeSort (PySem.W.dataLe false (keyD fun i => ds.getD i 0))).Perm (List.range n) := List.mergeSort_perm _ _
    have hnD : H2 D = none := I3.hok.fresh hD
    have hl4 : (((List.range n).mergeSort (PySem.W.dataLe false (keyD fun i => ds.getD i 0))).map nV).length ≤ sizeLine := by
      rw [List.length_map, hpm.length_eq, List.length_range, sizeLine_eq]
      omega
    refine ⟨.ref D, upd H2 D (.lst (((List.range n).mergeSort (PySem.W.dataLe false (keyD fun i => ds.getD i 0))).map nV)), I3.laid (t' := tk4) kp hD ⟨hl4, out, c4, vals_nats ho, hlD⟩, rfl, q H2 D _ eN1 hnD hpm ?_⟩
    have el : PySem.W.dataLe false (keyD fun i => ds.getD i 0) = fun (i k : Nat) => decide (ds.getD i 0 < ds.getD k 0 ∨ (ds.getD i 0 = ds.getD k 0 ∧ (i : Int) ≤ (k : Int))) := PySem.W.dataLe_ii (fun i : Nat => ds.getD i 0) (fun i => (i : Int))
    rw [el]
    have hp2 := List.pairwise_mergeSort (le := fun (i k : Nat) => decide (ds.getD i 0 < ds.getD k 0 ∨ (ds.getD i 0 = ds.getD k 0 ∧ (i : Int) ≤ (k : Int)))) (fun a b c h1 h2 => by
      rw [decide_eq_true_eq] at h1 h2 ⊢
      omega) (fun a b => by
      rw [Bool.or_eq_true, decide_eq_true_eq, decide_eq_true_eq]
      omega) (List.range n)
    refine hp2.imp fun {i k} h => ?_
    have h' := of_decide_eq_true h
    unfold KeyLe
    omega
end
end Tr
namespace Tr
open PySem PySem.Spec PyProof.Rows L2 Evl RZ
/-! ### what a web is -/
abbrev Web := Nat × List (Nat × Nat)
def lexN (a b : Nat × Nat) : Prop := a.1 < b.1 ∨ (a.1 = b.1 ∧ a.2 < b.2)
structure WebForm (w : Web) : Prop where
  lo : 1 ≤ w.1
  hi : w.1 ≤ 60
  pr : ∀ e ∈ w.2, e.1 < e.2 ∧ e.2 < w.1
  up : w.2.Pairwise lexN
  sm : w.2.length ≤ 1000
def rEdge (K : PySem.W.Frag) : Rp (Nat × Nat) := rPr K rNat rNat
def rWeb (K : PySem.W.Frag) : Rp Web := rPr K rNat (rTup K (rEdge K))
instance {K : PySem.W.Frag} : Mono (rEdge K) := inferInstanceAs (Mono (rPr K rNat rNat))
instance {K : PySem.W.Frag} : Mono (rWeb K) := inferInstanceAs (Mono (rPr K rNat (rTup K (rEdge K))))
section
variable {P : Program} {w : World} {K : PySem.W.Frag} {mg : Str → Option Value} {base : Heap}
def spIsInt : Sp := fun vs H Q _ => ∃ i, vs = [.int i] ∧ ∀ H2, Ex H H2 → Q (.bl true) H2
theorem sc_is_int : FnScope ["value"] ["value"] (defScope (top 6)) := ⟨rfl, rfl, rfl, by decide +kernel, rfl, by decide +kernel, by decide +kernel⟩
theorem c_is_int (D : Def K mg "is_int" (top 6) ["value"]) (B : Bi mg) : Cal P w K mg base 1 "is_int" spIsInt := by
  refine D.cal sc_is_int (fun vs H Q E h => ?_) (fun f cdv A outer s H vs Q E hr h => ?_)
  · obtain ⟨i, rfl, _⟩ := h
    rfl
  · obtain ⟨i, rfl, q⟩ := h
    refine ⟨_, (pss_one (ps_ret (pe_and (pe_callB (call_isi' K) (by rfl) B.isinstance (by decide +kernel) (pa_cons (pv 0) (pa_cons (pe_bltn (v := .ty "int") (by rfl) B.int_ (by decide +kernel) rfl) pa_nil))) (pe_one (pe_not (pe_callB (call_isi' K) (by rfl) B.isinstance (by decide +kernel) (pa_cons (pv 0) (pa_cons (pe_bltn (v := .ty "bool") (by rfl) B.bool_ (by decide +kernel) rfl) pa_nil)))))))), ?_⟩
    exact s_retV (ev_andV (ev_cb (ea_cons (ev_var rfl) (ea_cons ev_c ea_nil)) (rc_isi_int (b := "int") (r := true) (by decide +kernel))) fun _ => ev_notV (ev_cb (ea_cons (ev_var rfl) (ea_cons ev_c ea_nil)) (rc_isi_int (b := "bool") (r := false) (by decide +kernel)))) (Ex.refl H) q
def spIsIn : Sp := fun vs H Q _ => ∃ i a b, vs = [.int i, .int a, .int b] ∧ ∀ H2, Ex H H2 → Q (.bl (decide (a ≤ i) && decide (i ≤ b))) H2
theorem sc_is_in : FnScope ["value", "least", "most"] ["value", "least", "most"] (defScope (top 7)) := ⟨rfl, rfl, rfl, by decide +kernel, rfl, by decide +kernel, by decide +kernel⟩
theorem c_is_in (D : Def K mg "is_in" (top 7) ["value", "least", "most"]) (B : Bi mg) (c_is_int : Cal P w K mg base 1 "is_int" spIsInt) : Cal P w K mg base 2 "is_in" spIsIn := by
  refine D.cal sc_is_in (fun vs H Q E h => ?_) (fun f cdv A outer s H vs Q E hr h => ?_)
  · obtain ⟨i, a, b, rfl, _⟩ := h
    rfl
  · obtain ⟨i, a, b, rfl, q⟩ := h
    refine ⟨_, (pss_one (ps_ret (pe_and (pe_k c_is_int hr (by decide) (by rfl) (pa_cons (pv 0) pa_nil)) (pe_one (pe_chain op_le op_le (pv 1) (pv 0) (pv 2)))))), ?_⟩
    exact s_retV (ev_andV (a := true) (ev_call (ea_cons (ev_var rfl) ea_nil) fun H1 e Q q E => ⟨i, rfl, q⟩) fun _ => ev_chainLe (ev_var rfl) (ev_var rfl) (ev_var rfl)) (Ex.refl H) q
theorem lex_lt {a b : Nat × Nat} (h : lexN a b) : HT.lexLt [(a.1 : Int), (a.2 : Int)] [(b.1 : Int), (b.2 : Int)] = true := by
  rw [HT.lexLt_cons]
  rcases h with h | ⟨h1, h2⟩
  · rw [if_neg (by omega)]
    exact decide_eq_true (by omega)
  · rw [if_pos (by omega), HT.lexLt_cons, if_neg (by omega)]
    exact decide_eq_true (by omega)
def spIsPair (K : PySem.W.Frag) : Sp := fun vs H Q _ => ∃ (v : V) (n : Nat) (e : Nat × Nat), vs = [v, .int (n : Int)] ∧ rEdge K H v e ∧ e.1 < e.2 ∧ e.2 < n ∧ ∀ H2, Ex H H2 → Q (.bl true) H2
theorem sc_is_pair : FnScope ["value", "size", "field"] ["value", "size"] (defScope (top 8)) := ⟨rfl, rfl, rfl, by decide +kernel, rfl, by decide +kernel, by decide +kernel⟩
theorem all_yes {bs : List Bool} (h : ∀ b ∈ bs, b = true) : bs.all id = true := List.all_eq_true.mpr h
theorem c_is_pair (D : Def K mg "is_pair" (top 8) ["value", "size"]) (B : Bi mg) (c_is_in : Cal P w K mg base 2 "is_in" spIsIn) : Cal P w K mg base 3 "is_pair" (spIsPair K) := by
  refine D.cal sc_is_pair (fun vs H Q E h => ?_) (fun f cdv A outer s H vs Q E hr h => ?_)
  · obtain ⟨v, n, e, rfl, _⟩ := h
    rfl
  · obtain ⟨v, n, ⟨a, b⟩, rfl, hv, h1, h2, q⟩ := h
    refine ⟨_, (pss_cons (ps_if (PW.pt (pw_or (pt_not (pt_val (pe_callB (call_isi' K) (by rfl) B.isinstance (by decide +kernel) (pa_cons (pv 0) (pa_cons (pe_bltn (v := .ty "tuple") (by rfl) B.tuple_ (by decide +kernel) rfl) pa_nil))))) (pw_or1 (pt_cmpR op_ne (pe_callB (call_len' K) (by rfl) B.len PySem.boot_len (pa_cons (pv 0) pa_nil)) pe_int (nomark _)))))
       (pss_never)
       (pss_nil))
      (pss_one (ps_ret (pe_and (pe_callB (cr_all' K rfl) (by rfl) B.all (by decide +kernel) (pa_cons (pe_lc (own := [("field", 2)]) rfl sc_is_pair.nd (pi_tup' K (pv 0)) (blkOk_by (N := ["value", "size", "field"]) (sc := defScope (top 8)) (by decide +kernel)) (fun _ _ _ _ _ => (pg_name (i := 2) sc_is_pair.nd rfl (.inl rfl))) (fun _ _ _ _ _ => pts_nil) (fun _ _ _ _ _ => (pe_k c_is_in hr (by decide) (by rfl) (pa_cons (pv 2) (pa_cons pe_int (pa_cons (pe_op op_sub (pv 1) pe_int) pa_nil)))))) pa_nil)) (pe_one (pe_cmpR op_lt (pe_ix (ix_tup' K) (pv 0) pe_int (fun _ _ => rfl)) (pe_ix (ix_tup' K) (pv 0) pe_int (fun _ _ => rfl)) (nomark _))))))), ?_⟩
    have hv' := hv
    obtain ⟨p, va, vb, rfl, hp, ra, rb⟩ := hv
    cases (show va = .int (a : Int) from ra)
    cases (show vb = .int (b : Int) from rb)
    have hp2 : rTup K rInt H (.ref p) [(a : Int), (b : Int)] := ⟨p, _, rfl, hp, seq_ints [(a : Int), (b : Int)]⟩
    refine q_skip (F := H) (et_or0 (et_nT (et_B (ev_cb (ea_cons (ev_var rfl) (ea_cons ev_c ea_nil)) (rc_isi_tup hp (b := "tuple") (r := true) (by decide +kernel))))) (et_test (ev_op (ev_lenPr (evr_var rfl hv')) ev_c (rv_ne rfl)))) (Ex.refl H) fun H1 e1 => ?_
    refine s_retV (F := H) (ev_andV (a := true) (b := true) ?_ fun _ => ?_) e1 ?_
    · refine ev_all (EvN.toR (evn_lcT (fun _ => true) (fun _ y => y = true) (evr_var rfl hp2) (fun xs e => by subst e; show 2 < 100000; decide) (fun _ => rfl) (fun _ _ _ _ _ _ _ _ => fun H e Q q => q H (Ex.refl H)) (fun xs x v G ex hx _ eg rx => ?_))) fun bs ⟨xs, hxs, mb⟩ => all_yes fun b hb => ?_
      · subst ex
        cases (show v = .int x from rx)
        refine evr_bl (ev_call (ea_cons (ev_var rfl) (ea_cons ev_c (ea_cons (ev_op (ev_var rfl) ev_c rv_I0) ea_nil))) fun H1 e1 Q q E => ⟨x, 0, (n : Int) - 1, rfl, fun H2 e2 => ?_⟩)
        have hx2 : x = (a : Int) ∨ x = (b : Int) := by simpa using hx
        have := q H2 e2
        rw [decide_eq_true (by omega), decide_eq_true (by omega)]
        exact this
      · rw [made_map (fn := fun _ => true) mb] at hb
        obtain ⟨_, _, rfl⟩ := List.mem_map.mp hb
        rfl
    · have e0 := evr_pr0 (K := K) (R := rNat) (S := rNat) (x := a) (y := b) (σ := [some (V.ref p), some (.int (n : Int)), none]) (F := H) (ta := tVar 0) (tb := tC (.int 0)) (evr_var rfl hv') ev_c
      have e3 := evr_pr1 (K := K) (R := rNat) (S := rNat) (x := a) (y := b) (σ := [some (V.ref p), some (.int (n : Int)), none]) (F := H) (ta := tVar 0) (tb := tC (.int 1)) (evr_var rfl hv') ev_c
      exact ev_to (ev_op (ev_nat e0) (ev_nat e3) rv_I0) (congrArg V.bl (decide_eq_true (by omega)))
    · exact fun H2 e2 => q H2 (e1.trans e2)
def spHasForm (K : PySem.W.Frag) : Sp := fun vs H Q _ => ∃ (v : V) (wb : Web), vs = [v] ∧ rWeb K H v wb ∧ WebForm wb ∧ ∀ H2, Ex H H2 → Q (.bl true) H2
theorem pair_next {T : Type} {r : T → T → Prop} : ∀ {xs : List T}, xs.Pairwise r → ∀ p ∈ xs.zip (xs.drop 1), r p.1 p.2
  | [], _, p, hp => by simp at hp
  | [_], _, p, hp => by simp at hp
  | a :: b :: t, h, p, hp => by
    have e : (a :: b :: t).zip ((a :: b :: t).drop 1) = (a, b) :: (b :: t).zip ((b :: t).drop 1) := rfl
    rw [e] at hp
    rw [List.pairwise_cons] at h
    rcases List.mem_cons.mp hp with rfl | hp
    · exact h.1 b (List.mem_cons_self ..)
    · exact pair_next h.2 p hp
theorem sc_has_form : FnScope ["value", "hedge", "one", "other"] ["value"] (defScope (top 9)) := ⟨rfl, rfl, rfl, by decide +kernel, rfl, by decide +kernel, by decide +kernel⟩
theorem c_has_form (D : Def K mg "has_form" (top 9) ["value"]) (B : Bi mg) (C : Cs mg) (c_is_in : Cal P w K mg base 2 "is_in" spIsIn) (c_is_pair : Cal P w K mg base 3 "is_pair" (spIsPair K)) : Cal P w K mg base 4 "has_form" (spHasForm K) := by
  refine D.cal sc_has_form (fun vs H Q E h => ?_) (fun f cdv A outer s H vs Q E hr h => ?_)
  · obtain ⟨v, wb, rfl, _⟩ := h
    rfl
  · obtain ⟨v, ⟨n, es⟩, rfl, hv, wf, q⟩ := h
    refine ⟨_, (pss_cons (ps_if (PW.pt (pw_or (pt_not (pt_val (pe_callB (call_isi' K) (by rfl) B.isinstance (by decide +kernel) (pa_cons (pv 0) (pa_cons (pe_bltn (v := .ty "tuple") (by rfl) B.tuple_ (by decide +kernel) rfl) pa_nil))))) (pw_or (pt_cmpR op_ne (pe_callB (call_len' K) (by rfl) B.len PySem.boot_len (pa_cons (pv 0) pa_nil)) pe_int (nomark _)) (pw_or1 (pt_not (pt_val (pe_k c_is_in hr (by decide) (by rfl) (pa_cons (pe_ix (ix_tup' K) (pv 0) pe_int (fun _ _ => rfl)) (pa_cons pe_int (pa_cons (C8.pe_gc (v := .int 60) (by rfl) C.MOST_FIELDS) pa_nil))))))))))
       (pss_never)
       (pss_nil))
      (pss_cons (ps_if (PW.pt (pw_or (pt_not (pt_val (pe_callB (call_isi' K) (by rfl) B.isinstance (by decide +kernel) (pa_cons (pe_ix (ix_tup' K) (pv 0) pe_int (fun _ _ => rfl)) (pa_cons (pe_bltn (v := .ty "tuple") (by rfl) B.tuple_ (by decide +kernel) rfl) pa_nil))))) (pw_or1 (pt_not (pt_val (pe_callB (cr_all' K rfl) (by rfl) B.all (by decide +kernel) (pa_cons (pe_lc (own := [("hedge", 1)]) rfl sc_has_form.nd (pi_tup' K (pe_ix (ix_tup' K) (pv 0) pe_int (fun _ _ => rfl))) (blkOk_by (N := ["value", "hedge", "one", "other"]) (sc := defScope (top 9)) (by decide +kernel)) (fun _ _ _ _ _ => (pg_name (i := 1) sc_has_form.nd rfl (.inl rfl))) (fun _ _ _ _ _ => pts_nil) (fun _ _ _ _ _ => (pe_k c_is_pair hr (by decide) (by rfl) (pa_cons (pv 1) (pa_cons (pe_ix (ix_tup' K) (pv 0) pe_int (fun _ _ => rfl)) pa_nil))))) pa_nil)))))))
       (pss_never)
       (pss_nil))
      (pss_one (ps_ret (pe_callB (cr_all' K rfl) (by rfl) B.all (by decide +kernel) (pa_cons (pe_lc (own := [("one", 2), ("other", 3)]) rfl sc_has_form.nd (pi_zip' K (by rfl) B.zip (pa_cons (pe_ix (ix_tup' K) (pv 0) pe_int (fun _ _ => rfl)) (pa_cons (pe_slice (sl_tupA' K) (pe_ix (ix_tup' K) (pv 0) pe_int (fun _ _ => rfl)) (po_some pe_int) po_none) pa_nil))) (blkOk_by (N := ["value", "hedge", "one", "other"]) (sc := defScope (top 9)) (by decide +kernel)) (fun _ _ _ _ _ => (pg_tup' (n := 2) K rfl (pgs_cons (pg_name (i := 2) sc_has_form.nd rfl (.inl rfl)) (pgs_cons (pg_name (i := 3) sc_has_form.nd rfl (.inl rfl)) pgs_nil)))) (fun _ _ _ _ _ => pts_nil) (fun _ _ _ _ _ => (pe_cmpR (op_ltT' K hr.units0) (pv 2) (pv 3) (nomark _)))) pa_nil)))))), ?_⟩
    have hv' := hv
    obtain ⟨p, va, vb, rfl, hp, ra, rb⟩ := hv
    have e0 : ∀ {F σ}, Ex H F → σ[0]? = some (some (V.ref p)) → EvR rNat (tOp (rIxT K) (tVar 0) (tC (.int 0))) σ F n := fun {F σ} e hs => evr_pr0 (R := rNat) (S := rTup K (rEdge K)) (evr_var hs (Mono.mono e hv')) ev_c
    have e1 : ∀ {F σ}, Ex H F → σ[0]? = some (some (V.ref p)) → EvR (rTup K (rEdge K)) (tOp (rIxT K) (tVar 0) (tC (.int 1))) σ F es := fun {F σ} e hs => evr_pr1 (R := rNat) (S := rTup K (rEdge K)) (evr_var hs (Mono.mono e hv')) ev_c
    have w1 : 1 ≤ n := wf.lo
    have w2 : n ≤ 60 := wf.hi
    refine q_skip (F := H) (et_or0 (et_nT (et_B (ev_cb (ea_cons (ev_var rfl) (ea_cons ev_c ea_nil)) (rc_isi_tup hp (b := "tuple") (r := true) (by decide +kernel))))) (et_or0 (et_test (ev_op (ev_lenPr (evr_var rfl hv')) ev_c (rv_ne rfl))) (et_nT (et_B (b := true) (ev_call (ea_cons (ev_nat (e0 (Ex.refl H) rfl)) (ea_cons ev_c (ea_cons ev_c ea_nil))) fun H1 e1 Q q E => ⟨n, 1, 60, rfl, fun H2 e2 => by
      have := q H2 e2
      rw [decide_eq_true (by omega), decide_eq_true (by omega)]
      exact this⟩))))) (Ex.refl H) fun H1 x1 => ?_
    refine q_skip (F := H) (et_or0 (et_nT (et_B (b := true) ?_)) (et_nT (et_B (b := true) ?_))) x1 fun H2 x2 => ?_
    · refine fun H e Q q => e1 e rfl H (Ex.refl H) _ fun y v G H2 py g ry => ?_
      obtain ⟨p1, v1, rfl, h1, _⟩ := ry
      exact ⟨.ref p1, .ty "tuple", .type "tuple", .type "tuple", true, rfl, .ty _, tyx_tup (ex_t g.sub h1), kit_ty (by decide +kernel), q H2 g.act⟩
    · refine ev_all (EvN.toR (evn_lcT (fun _ => true) (fun _ y => y = true) (e1 (Ex.refl H) rfl) (fun xs e => by subst e; exact Nat.lt_of_le_of_lt wf.sm (by decide)) (fun _ => rfl) (fun _ _ _ _ _ _ _ _ => fun H e Q q => q H (Ex.refl H)) (fun xs x v G ex hx _ eg rx => ?_))) fun bs ⟨xs, hxs, mb⟩ => all_yes fun b hb => ?_
      · subst ex
        refine evr_bl (ev_call (ea_cons (ev_var rfl) (ea_cons (ev_nat (e0 eg rfl)) ea_nil)) fun H1 e1 Q q E => ⟨v, n, x, rfl, Mono.mono e1 rx, (wf.pr x hx).1, (wf.pr x hx).2, q⟩)
      · rw [made_map (fn := fun _ => true) mb] at hb
        obtain ⟨_, _, rfl⟩ := List.mem_map.mp hb
        rfl
    · refine s_retV (F := H) (ev_all (b := true) (EvN.toR (evn_lcZ (S2 := rBl) (fun _ => true) (fun _ y => y = true) (e1 (Ex.refl H) rfl) (evr_drop1T (e1 (Ex.refl H) rfl)) (Nat.lt_of_le_of_lt wf.sm (by decide)) (fun _ _ => rfl) (fun _ _ _ _ _ _ _ _ => fun H e Q q => q H (Ex.refl H)) (fun x v w2 G hx _ eg r1 r2 => ?_))) fun bs mb => all_yes fun b hb => ?_) (x1.trans x2) fun H3 x3 => q H3 ((x1.trans x2).trans x3)
      · have hl := lex_lt (pair_next wf.up x hx)
        obtain ⟨p1, a1, b1, rfl, k1, ka, kb⟩ := r1
        obtain ⟨p2, a2, b2, rfl, k2, kc, kd⟩ := r2
        cases (show a1 = .int (x.1.1 : Int) from ka)
        cases (show b1 = .int (x.1.2 : Int) from kb)
        cases (show a2 = .int (x.2.1 : Int) from kc)
        cases (show b2 = .int (x.2.2 : Int) from kd)
        refine evr_bl (ev_op (ev_var rfl) (ev_var rfl) fun H1 e1 Q q => ⟨p1, p2, [(x.1.1 : Int), (x.1.2 : Int)], [(x.2.1 : Int), (x.2.2 : Int)], rfl, rfl, ex_t e1 k1, ex_t e1 k2, ?_⟩)
        have := q H1 (Ex.refl H1)
        rw [hl]
        exact this
      · rw [made_map (fn := fun _ => true) mb] at hb
        obtain ⟨_, _, rfl⟩ := List.mem_map.mp hb
        rfl
end
end Tr
namespace Tr
open PySem PySem.Spec PyProof.Rows L2 Evl RZ
/-! ### the neighbors -/
def Adj (es : List (Nat × Nat)) (u v : Nat) : Prop := (u, v) ∈ es ∨ (v, u) ∈ es
structure NearsOK (wb : Web) (ns : List (List Nat)) : Prop where
  len : ns.length = wb.1
  mem : ∀ (v : Nat) (l : List Nat), ns[v]? = some l → ∀ u, u ∈ l ↔ Adj wb.2 v u
  up : ∀ (v : Nat) (l : List Nat), ns[v]? = some l → l.Pairwise (· ≤ ·)
  sz : ∀ (v : Nat) (l : List Nat), ns[v]? = some l → l.length ≤ 2000
def addE (ls : List (List Nat)) (e : Nat × Nat) : List (List Nat) :=
  (ls.set e.1 (ls.getD e.1 [] ++ [e.2])).set e.2 ((ls.set e.1 (ls.getD e.1 [] ++ [e.2])).getD e.2 [] ++ [e.1])
theorem addE_len (ls : List (List Nat)) (e : Nat × Nat) : (addE ls e).length = ls.length := by
  unfold addE
  rw [List.length_set, List.length_set]
theorem getD_set {T : Type} (l : List T) (i j : Nat) (x d : T) (h : i < l.length) : (l.set i x).getD j d = if i = j then x else l.getD j d := by
  rw [List.getD_eq_getElem?_getD, List.getD_eq_getElem?_getD, List.getElem?_set]
  by_cases e : i = j
  · subst e
    rw [if_pos rfl, if_pos rfl, if_pos h]
    rfl
  · rw [if_neg e, if_neg e]
theorem addE_mem {ls : List (List Nat)} {e : Nat × Nat} (h1 : e.1 < ls.length) (h2 : e.2 < ls.length) (hne : e.1 ≠ e.2) (v u : Nat) :
    u ∈ (addE ls e).getD v [] ↔ u ∈ ls.getD v [] ∨ (v = e.1 ∧ u = e.2) ∨ (v = e.2 ∧ u = e.1) := by
  unfold addE
  rw [getD_set _ _ _ _ _ (by rw [List.length_set]; exact h2), getD_set _ _ _ _ _ h1, getD_set _ _ _ _ _ h1, if_neg hne]
  by_cases a : e.2 = v
  · subst a
    rw [if_pos rfl, List.mem_append, List.mem_singleton]
    constructor
    · rintro (h | h)
      · exact .inl h
      · exact .inr (.inr ⟨rfl, h⟩)
    · rintro (h | ⟨h, _⟩ | ⟨_, h⟩)
      · exact .inl h
      · exact absurd h.symm hne
      · exact .inr h
  · rw [if_neg a]
    by_cases b : e.1 = v
    · subst b
      rw [if_pos rfl, List.mem_append, List.mem_singleton]
      constructor
      · rintro (h | h)
        · exact .inl h
        · exact .inr (.inl ⟨rfl, h⟩)
      · rintro (h | ⟨_, h⟩ | ⟨h, _⟩)
        · exact .inl h
        · exact .inr h
        · exact absurd h hne
    · rw [if_neg b]
      constructor
      · exact .inl
      · rintro (h | ⟨h, _⟩ | ⟨h, _⟩)
        · exact h
        · exact absurd h.symm b
        · exact absurd h.symm a
theorem adds_len (n : Nat) : ∀ (es : List (Nat × Nat)) (ls : List (List Nat)), ls.length = n → (es.foldl addE ls).length = n
  | [], ls, h => h
  | e :: r, ls, h => adds_len n r _ (by rw [addE_len]; exact h)
theorem adds_mem : ∀ (es : List (Nat × Nat)) (ls : List (List Nat)), (∀ e ∈ es, e.1 < ls.length ∧ e.2 < ls.length ∧ e.1 ≠ e.2) → ∀ v u, u ∈ (es.foldl addE ls).getD v [] ↔ u ∈ ls.getD v [] ∨ Adj es v u
  | [], ls, _, v, u => by
    constructor
    · exact .inl
    · rintro (h | h | h)
      · exact h
      · simp at h
      · simp at h
  | e :: r, ls, h, v, u => by
    have h1 := h e (List.mem_cons_self ..)
    rw [List.foldl_cons, adds_mem r (addE ls e) (fun x hx => by rw [addE_len]; exact h x (List.mem_cons_of_mem _ hx)) v u, addE_mem h1.1 h1.2.1 h1.2.2]
    unfold Adj
    rw [List.mem_cons, List.mem_cons]
    obtain ⟨a, b⟩ := e
    constructor
    · rintro ((h | ⟨rfl, rfl⟩ | ⟨rfl, rfl⟩) | h | h)
      · exact .inl h
      · exact .inr (.inl (.inl rfl))
      · exact .inr (.inr (.inl rfl))
      · exact .inr (.inl (.inr h))
      · exact .inr (.inr (.inr h))
    · rintro (h | (h | h) | h | h)
      · exact .inl (.inl h)
      · cases h; exact .inl (.inr (.inl ⟨rfl, rfl⟩))
      · exact .inr (.inl h)
      · cases h; exact .inl (.inr (.inr ⟨rfl, rfl⟩))
      · exact .inr (.inr h)
theorem addE_sz {ls : List (List Nat)} {k : Nat} (e : Nat × Nat) (h : ∀ l ∈ ls, l.length ≤ k) : ∀ l ∈ addE ls e, l.length ≤ k + 2 := by
  have d : ∀ (ms : List (List Nat)) (j m : Nat), (∀ l ∈ ms, l.length ≤ m) → (ms.getD j []).length ≤ m := fun ms j m hm => by
    rw [List.getD_eq_getElem?_getD]
    cases q : ms[j]? with
    | none => exact Nat.zero_le _
    | some l => exact hm l (List.mem_of_getElem? q)
  have s1 : ∀ l ∈ ls.set e.1 (ls.getD e.1 [] ++ [e.2]), l.length ≤ k + 1 := fun l hl => by
    rcases List.mem_or_eq_of_mem_set hl with q | rfl
    · exact Nat.le_succ_of_le (h l q)
    · rw [List.length_append]
      have := d ls e.1 k h
      simp only [List.length_cons, List.length_nil]
      omega
  intro l hl
  rcases List.mem_or_eq_of_mem_set hl with q | rfl
  · exact Nat.le_succ_of_le (s1 l q)
  · rw [List.length_append]
    have := d _ e.2 (k + 1) s1
    simp only [List.length_cons, List.length_nil]
    omega
theorem adds_sz : ∀ (es : List (Nat × Nat)) (ls : List (List Nat)) (k : Nat), (∀ l ∈ ls, l.length ≤ k) → ∀ l ∈ es.foldl addE ls, l.length ≤ k + 2 * es.length
  | [], ls, k, h => h
  | e :: r, ls, k, h => fun l hl => by
    have := adds_sz r (addE ls e) (k + 2) (addE_sz e h) l hl
    rw [List.length_cons]
    omega
/-! ### the walk -/
/-- a list of lists that may all be written: at L the list of the cells ps, which hold ls -/
structure Cells (F H : Hp) (L : Addr) (ps : List Addr) (ls : List (List Nat)) : Prop where
  ex : Ex F H
  at_ : H L = some (.lst (ps.map V.ref))
  nd : ps.Nodup
  no : L ∉ ps
  fl : F L = none
  fp : ∀ p ∈ ps, F p = none
  each : Paired (fun p l => H p = some (.lst (l.map nV))) ps ls
theorem Cells.mono {F H H' : Hp} {L : Addr} {ps : List Addr} {ls : List (List Nat)} (c : Cells F H L ps ls) (e : Ex H H') : Cells F H' L ps ls := by
  refine ⟨c.ex.trans e, e _ _ c.at_, c.nd, c.no, c.fl, c.fp, ?_⟩
  have := c.each
  clear c
  induction this with
  | nil => exact .nil
  | cons a _ ih => exact .cons (e _ _ a) ih
theorem Cells.len {F H : Hp} {L : Addr} {ps : List Addr} {ls : List (List Nat)} (c : Cells F H L ps ls) : ps.length = ls.length := by
  have := c.each
  clear c
  induction this with
  | nil => rfl
  | cons _ _ ih => rw [List.length_cons, List.length_cons, ih]
theorem Cells.cell {F H : Hp} {L : Addr} {ps : List Addr} {ls : List (List Nat)} (c : Cells F H L ps ls) {i : Nat} {l : List Nat} (h : ls[i]? = some l) : ∃ p, ps[i]? = some p ∧ H p = some (.lst (l.map nV)) := by
  have := c.each
  clear c
  induction this generalizing i with
  | nil => simp at h
  | cons a _ ih =>
    cases i with
    | zero => cases h; exact ⟨_, rfl, a⟩
    | succ i => exact ih h
theorem Cells.put {F H : Hp} {L : Addr} {ps : List Addr} {ls : List (List Nat)} (c : Cells F H L ps ls) {i : Nat} {p : Addr} {l : List Nat} (hp : ps[i]? = some p) : Cells F (upd H p (.lst (l.map nV))) L ps (ls.set i l) := by
  have hm := List.mem_of_getElem? hp
  refine ⟨Ex.mut c.ex (c.fp p hm), ?_, c.nd, c.no, c.fl, c.fp, ?_⟩
  · rw [upd_ne (fun z => c.no (by rw [z]; exact hm))]
    exact c.at_
  · have h1 := c.each
    have h2 := c.nd
    clear c hm
    induction h1 generalizing i with
    | nil => simp at hp
    | @cons a b as bs r t ih =>
      rw [List.nodup_cons] at h2
      cases i with
      | zero =>
        cases hp
        refine .cons upd_same ?_
        have n0 := h2.1
        clear ih h2 r
        induction t with
        | nil => exact .nil
        | cons q _ ih2 =>
          rw [List.mem_cons, not_or] at n0
          exact .cons (by rw [upd_ne (fun z => n0.1 z.symm)]; exact q) (ih2 n0.2)
      | succ i =>
        refine .cons ?_ (ih hp h2.2)
        rw [upd_ne (fun z => h2.1 (by rw [z]; exact List.mem_of_getElem? hp))]
        exact r
theorem addE_at {ls : List (List Nat)} {x : Nat × Nat} {la lb : List Nat} (h1 : ls[x.1]? = some la) (h2 : (ls.set x.1 (la ++ [x.2]))[x.2]? = some lb) : addE ls x = (ls.set x.1 (la ++ [x.2])).set x.2 (lb ++ [x.1]) := by
  have e1 : ls.getD x.1 [] = la := by rw [List.getD_eq_getElem?_getD, h1]; rfl
  have e2 : (ls.set x.1 (la ++ [x.2])).getD x.2 [] = lb := by rw [List.getD_eq_getElem?_getD, h2]; rfl
  unfold addE
  rw [e1, e2]
theorem each_keep {H H' : Hp} : ∀ {ps : List Addr} {ls : List (List Nat)}, Paired (fun p (l : List Nat) => H p = some (.lst (l.map nV))) ps ls → (∀ p ∈ ps, H' p = H p) → Paired (fun p (l : List Nat) => H' p = some (.lst (l.map nV))) ps ls
  | _, _, .nil, _ => .nil
  | _, _, .cons a t, h => .cons (by rw [h _ (List.mem_cons_self ..)]; exact a) (each_keep t fun p hp => h p (List.mem_cons_of_mem _ hp))
theorem each_there {H : Hp} : ∀ {ps : List Addr} {ls : List (List Nat)}, Paired (fun p (l : List Nat) => H p = some (.lst (l.map nV))) ps ls → ∀ p ∈ ps, ∃ o, H p = some o
  | _, _, .nil, p, hp => absurd hp List.not_mem_nil
  | _, _, .cons a t, p, hp => by
    rcases List.mem_cons.mp hp with rfl | hp
    · exact ⟨_, a⟩
    · exact each_there t p hp
theorem paired_app {T U : Type} {R : T → U → Prop} {a : T} {b : U} (h : R a b) : ∀ {as : List T} {bs : List U}, Paired R as bs → Paired R (as ++ [a]) (bs ++ [b])
  | _, _, .nil => .cons h .nil
  | _, _, .cons r t => .cons r (paired_app h t)
/-- one cell more -/
theorem Cells.add {F H : Hp} {L : Addr} {ps : List Addr} {ls : List (List Nat)} (c : Cells F H L ps ls) {p : Addr} (np : H p = none) : Cells F (upd (upd H p (.lst [])) L (.lst (ps.map V.ref ++ [.ref p]))) L (ps ++ [p]) (ls ++ [[]]) := by
  have nL : p ≠ L := fun z => by rw [z, c.at_] at np; cases np
  have nP : ∀ b ∈ ps, b ≠ p := fun b hb z => by
    obtain ⟨o, ho⟩ := each_there c.each b hb
    rw [z, np] at ho
    cases ho
  refine ⟨Ex.mut (c.ex.trans (Ex.new np)) c.fl, ?_, ?_, ?_, c.fl, fun b hb => ?_, ?_⟩
  · rw [upd_same, List.map_append]; rfl
  · refine List.nodup_append.mpr ⟨c.nd, by simp, fun a ha b hb => ?_⟩
    rw [List.mem_singleton] at hb
    rw [hb]
    exact nP a ha
  · rw [List.mem_append, not_or, List.mem_singleton]
    exact ⟨c.no, nL.symm⟩
  · rcases List.mem_append.mp hb with hb | hb
    · exact c.fp b hb
    · rw [List.mem_singleton] at hb
      rw [hb]
      exact fresh_back c.ex np
  · refine paired_app (by rw [upd_ne nL, upd_same]; rfl) (each_keep c.each fun b hb => ?_)
    rw [upd_ne (fun z => c.no (by rw [← z]; exact hb)), upd_ne (nP b hb)]
theorem getD_of {T : Type} {l : List T} {i : Nat} {x d : T} (h : l[i]? = some x) : l.getD i d = x := by
  rw [List.getD_eq_getElem?_getD, h]
  rfl
section
variable {K : PySem.W.Frag}
theorem Cells.read {F H : Hp} {L : Addr} {ps : List Addr} {ls : List (List Nat)} (c : Cells F H L ps ls) {σ : L2.St} {i : Nat} {p : Addr} {ta tb : TE} (ha : Ev ta σ H (.ref L)) (hb : Ev tb σ H (.int (i : Int))) (hp : ps[i]? = some p) : Ev (tOp (rIxL K) ta tb) σ H (.ref p) :=
  ev_op ha hb (rv_ixL (SqL.of c.at_) (atI_nat (by rw [List.getElem?_map, hp]; rfl)))
/-- the cells go over into what is frozen -/
theorem Cells.done {F H : Hp} {L : Addr} {ps : List Addr} {ls : List (List Nat)} (c : Cells F H L ps ls) : rLst K (rLst K rNat) (plus F H (L :: ps)) (.ref L) ls := by
  refine ⟨L, ps.map V.ref, rfl, SqL.of (by rw [plus_in (List.mem_cons_self ..)]; exact c.at_), ?_⟩
  have key : ∀ p ∈ ps, plus F H (L :: ps) p = H p := fun p hp => plus_in (List.mem_cons_of_mem _ hp)
  have h1 := c.each
  clear c
  generalize plus F H (L :: ps) = G at key
  induction h1 with
  | nil => exact .nil
  | cons a _ ih => exact .cons ⟨_, _, rfl, SqL.of (by rw [key _ (List.mem_cons_self ..)]; exact a), seq_nats _⟩ (ih fun p hp => key p (List.mem_cons_of_mem _ hp))
theorem nats_back {ns : List Int} {l : List Nat} (h : ns.Perm (l.map fun (k : Nat) => (k : Int))) (up : ns.Pairwise (· ≤ ·)) : ∃ l' : List Nat, ns = l'.map (fun (k : Nat) => (k : Int)) ∧ l'.Perm l ∧ l'.Pairwise (· ≤ ·) := by
  have e : ns = (ns.map Int.toNat).map fun (k : Nat) => (k : Int) := by
    rw [List.map_map]
    refine (List.map_id ns).symm.trans (List.map_congr_left fun z hz => ?_)
    obtain ⟨k, _, rfl⟩ := List.mem_map.mp (h.mem_iff.mp hz)
    rfl
  have e2 : ((l.map fun (k : Nat) => (k : Int)).map Int.toNat) = l := by
    rw [List.map_map]
    refine (List.map_congr_left fun z hz => ?_).trans (List.map_id l)
    rfl
  refine ⟨ns.map Int.toNat, e, ?_, ?_⟩
  · have := h.map Int.toNat
    rw [e2] at this
    exact this
  · rw [e, List.pairwise_map] at up
    exact up.imp fun h => Int.ofNat_le.mp h
/-- sorted of numbers of fields -/
theorem evn_sorted {te : TE} {σ : L2.St} {F : Hp} {l : List Nat} (h : EvR (rLst K rNat) te σ F l) : EvN rNat (fun ys => ys.Perm l ∧ ys.Pairwise (· ≤ ·)) (tCB (rSortedI K) (tCons te tNil)) σ F := fun H e Q q => h H e _ fun ys v G H2 px g r => by
  subst px
  obtain ⟨p, vs, rfl, hl, r⟩ := r
  have er := nats_of r
  rw [map_nV] at er
  subst er
  refine ⟨p, _, rfl, ex_l g.sub hl, fun ns' p2 hp hu n2 => ?_⟩
  obtain ⟨l', rfl, h1, h2⟩ := nats_back hp hu
  refine q l' p2 _ G _ ⟨h1, h2⟩ (g.ex (Ex.new n2)) (g.free n2).2 (g.free n2).1 upd_same ?_
  rw [← map_nV]
  exact seq_nats l'
def tNears (K : PySem.W.Frag) : TS := tSeq (tAsg (tLc (iRng1 (tCons (tOp (rIxT K) (tVar 0) (tC (.int 0))) tNil)) (gName 4) tYes (tLst tNil) [4]) (gName 1))
  (tSeq (tFor (iTup K (tOp (rIxT K) (tVar 0) (tC (.int 1)))) (gPair K 2 3) (tSeq (tDrop (tBM K "list" rAppend (tOp (rIxL K) (tVar 1) (tVar 2)) (tCons (tVar 3) tNil))) (tDrop (tBM K "list" rAppend (tOp (rIxL K) (tVar 1) (tVar 3)) (tCons (tVar 2) tNil)))))
  (tRet (tLc (iList K (tVar 1)) (gName 5) tYes (tCB (rSortedI K) (tCons (tVar 5) tNil)) [5])))
def spNears (K : PySem.W.Frag) : Sp := fun vs H Q _ => ∃ (F : Hp) (v : V) (wb : Web), vs = [v] ∧ Ex F H ∧ rWeb K F v wb ∧ WebForm wb ∧ ∀ ns x G H2, NearsOK wb ns → Grow F H G H2 → rLst K (rLst K rNat) G x ns → Q x H2
theorem read_nears {F H : Hp} {v : V} {wb : Web} {Q : VK} {D : Ends} (hD : D.rt = Q) (e : Ex F H) (hv : rWeb K F v wb) (wf : WebForm wb) (q : ∀ ns x G H2, NearsOK wb ns → Grow F H G H2 → rLst K (rLst K rNat) G x ns → Q x H2) : tNears K D [some v, none, none, none, none, none] H := by
  obtain ⟨n, es⟩ := wb
  have w2 : n ≤ 60 := wf.hi
  have w3 : es.length ≤ 1000 := wf.sm
  have e0 : ∀ {G σ}, Ex F G → σ[0]? = some (some v) → EvR rNat (tOp (rIxT K) (tVar 0) (tC (.int 0))) σ G n := fun {G σ} e hs => evr_pr0 (R := rNat) (S := rTup K (rEdge K)) (evr_var hs (Mono.mono e hv)) ev_c
  have e1 : ∀ {G σ}, Ex F G → σ[0]? = some (some v) → EvR (rTup K (rEdge K)) (tOp (rIxT K) (tVar 0) (tC (.int 1))) σ G es := fun {G σ} e hs => evr_pr1 (R := rNat) (S := rTup K (rEdge K)) (evr_var hs (Mono.mono e hv)) ev_c
  -- found = [[] for field in range(n)]
  refine ev_nat (e0 (Ex.refl F) rfl) H e _ fun H1 x1 => ⟨n, rfl, by omega, by omega, fun L nL => ?_⟩
  have nLH : H L = none := fresh_back x1 nL
  have nLF : F L = none := fresh_back e nLH
  refine lc_range (lo := 0) (n := (n : Int).toNat) (fun i H' => ∃ ps, Cells F H' L ps (List.replicate i []) ∧ Ex H H' ∧ ∀ p ∈ ps, H p = none) ⟨[], ⟨Ex.mut (e.trans x1) nLF, upd_same, List.nodup_nil, List.not_mem_nil, nLF, fun p hp => absurd hp List.not_mem_nil, .nil⟩, Ex.mut x1 nLH, fun p hp => absurd hp List.not_mem_nil⟩ (fun i H' hi ⟨ps, c, xh, nh⟩ => ?_) (fun H' ⟨ps, c, xh, nh⟩ => ?_)
  · refine ⟨rfl, ?_⟩
    refine yes_of ?_
    refine ⟨Nat.zero_le _, fun p np => ⟨ps.map V.ref, ?_, ?_, ps ++ [p], ?_, Ex.mut (xh.trans (Ex.new np)) nLH, fun b hb => ?_⟩⟩
    · rw [upd_ne (ne_of_none c.at_ np)]; exact c.at_
    · rw [List.length_map, c.len, List.length_replicate]; exact sz_lt (by omega)
    · rw [List.replicate_succ']
      exact c.add np
    · rcases List.mem_append.mp hb with hb | hb
      · exact nh b hb
      · rw [List.mem_singleton] at hb
        rw [hb]
        exact fresh_back xh np
  · -- for one, other in web[1]
    rw [Int.toNat_natCast] at c
    have hpr : ∀ e ∈ es, e.1 < n ∧ e.2 < n ∧ e.1 ≠ e.2 := fun x hx => by
      have h1 := wf.pr x hx
      have h2 : x.2 < n := h1.2
      omega
    have hsz : ∀ i, ∀ l ∈ (es.take i).foldl addE (List.replicate n []), l.length ≤ 2000 := fun i l hl => by
      have := adds_sz (es.take i) (List.replicate n []) 0 (fun l hl => by rw [(List.mem_replicate.mp hl).2]; exact Nat.le_refl 0) l hl
      rw [List.length_take] at this
      omega
    have hlen : ∀ i, ((es.take i).foldl addE (List.replicate n [])).length = n := fun i => adds_len n _ _ (List.length_replicate ..)
    refine for_tpl (K := K) (xs := es) (e1 (Ex.refl F) rfl) c.ex (fun G i σ H' => ∃ y2 y3 y5, σ = [some v, some (.ref L), y2, y3, none, y5] ∧ Ex G H' ∧ G L = none ∧ (∀ p ∈ ps, G p = none) ∧ Ex H H' ∧ Cells F H' L ps ((es.take i).foldl addE (List.replicate n []))) (fun G i σ H' ⟨_, _, _, _, h, _⟩ => h) (fun G H2 g => ⟨none, none, none, rfl, g.sub, g.gone nLF c.at_, fun p hp => ?_, xh.trans g.act, c.mono g.act⟩) (fun G i x w σ' H' eg hx rx ⟨y2, y3, y5, hσ, xg, gl, gp, xh', c'⟩ => ?_) (fun G σ' H' eg ⟨y2, y3, y5, hσ, xg, gl, gp, xh', c'⟩ => ?_)
    · obtain ⟨i, hi⟩ := List.getElem?_of_mem hp
      have hlt : i < ps.length := (List.getElem?_eq_some_iff.mp hi).1
      have hl := c.len
      rw [List.length_replicate] at hl
      obtain ⟨p2, k1, k2⟩ := c.cell (i := i) (l := []) (by rw [List.getElem?_replicate, if_pos (by omega)])
      rw [hi] at k1
      cases k1
      exact g.gone (c.fp p hp) k2
    · subst hσ
      obtain ⟨pe, va, vb, rfl, hq, ra, rb⟩ := rx
      cases (show va = .int (x.1 : Int) from ra)
      cases (show vb = .int (x.2 : Int) from rb)
      have h1 := hpr x (List.mem_of_getElem? hx)
      refine g_pair (ex_t xg hq) ?_
      have hL := hlen i
      obtain ⟨la, hla⟩ : ∃ la, ((es.take i).foldl addE (List.replicate n []))[x.1]? = some la := ⟨_, List.getElem?_eq_getElem (by rw [hL]; exact h1.1)⟩
      obtain ⟨pa, kpa, kla⟩ := c'.cell hla
      refine q_appendV kla (c'.read (ev_var rfl) (ev_var rfl) kpa) (ev_var rfl) (by rw [List.length_map]; have := hsz i la (List.mem_of_getElem? hla); omega) fun H3 x3 => ?_
      have c3 := (c'.mono x3).put (l := la ++ [x.2]) kpa
      rw [show ((la ++ [x.2]).map nV) = la.map nV ++ [V.int (x.2 : Int)] by rw [List.map_append]; rfl] at c3
      obtain ⟨lb, hlb⟩ : ∃ lb, (((es.take i).foldl addE (List.replicate n [])).set x.1 (la ++ [x.2]))[x.2]? = some lb := ⟨_, List.getElem?_eq_getElem (by rw [List.length_set, hL]; exact h1.2.1)⟩
      obtain ⟨pb, kpb, klb⟩ := c3.cell hlb
      have lbz : lb.length < 100000 := by
        rcases List.mem_or_eq_of_mem_set (List.mem_of_getElem? hlb) with z | z
        · have := hsz i lb z; omega
        · rw [z, List.length_append]
          have := hsz i la (List.mem_of_getElem? hla)
          simp only [List.length_cons, List.length_nil]
          omega
      have gpa : G pa = none := gp pa (List.mem_of_getElem? kpa)
      have gpb : G pb = none := gp pb (List.mem_of_getElem? kpb)
      refine s_appendV klb (c3.read (ev_var rfl) (ev_var rfl) kpb) (ev_var rfl) (by rw [List.length_map]; exact lbz) fun H4 x4 => ?_
      have c4 := (c3.mono x4).put (l := lb ++ [x.1]) kpb
      rw [show ((lb ++ [x.1]).map nV) = lb.map nV ++ [V.int (x.1 : Int)] by rw [List.map_append]; rfl] at c4
      refine ⟨_, _, y5, rfl, Ex.mut ((Ex.mut (xg.trans x3) gpa).trans x4) gpb, gl, gp, Ex.mut ((Ex.mut (xh'.trans x3) (nh pa (List.mem_of_getElem? kpa))).trans x4) (nh pb (List.mem_of_getElem? kpb)), ?_⟩
      rw [List.take_add_one, hx]
      show Cells F _ L ps ((es.take i ++ [x]).foldl addE _)
      rw [List.foldl_append]
      show Cells F _ L ps (addE _ x)
      rw [addE_at hla hlb]
      exact c4
    · subst hσ
      rw [List.take_length] at c'
      -- return [sorted(told) for told in found]
      have el := hlen es.length
      rw [List.take_length] at el
      have hsz' := hsz es.length
      rw [List.take_length] at hsz'
      have gr : Grow F H (plus F H' (L :: ps)) H' := Grow.plus (⟨xh', Ex.refl F, c'.ex, fun a o q => .inl q⟩) fun a ha => by
        rcases List.mem_cons.mp ha with rfl | ha
        · exact ⟨nLH, nLF⟩
        · exact ⟨nh a ha, c'.fp a ha⟩
      have hd : rLst K (rLst K rNat) (plus F H' (L :: ps)) (.ref L) (es.foldl addE (List.replicate n [])) := c'.done
      refine (EvN.toR (K := K) (evn_lcL (K := K) (R := rLst K rNat) (S := rLst K rNat) (fun _ => true) (fun l y => y.Perm l ∧ y.Pairwise (· ≤ ·)) (evr_var rfl hd) (fun xs hx => by subst hx; omega) (fun _ => rfl) (fun _ _ _ _ _ _ _ _ => fun H e Q q => q H (Ex.refl H)) (fun xs l w G _ _ _ _ rw_ => EvN.toR (evn_sorted (evr_var rfl rw_))))) H' gr.sub _ fun ys y G2 H5 hy g5 ry => ?_
      obtain ⟨xs, hxs, mb⟩ := hy
      subst hxs
      rw [hD]
      refine q ys y G2 H5 ?_ (gr.trans g5) ry
      unfold Made at mb
      rw [List.filter_eq_self.mpr (fun _ _ => rfl)] at mb
      have key : ∀ (v : Nat) (l : List Nat), ys[v]? = some l → ∃ m, (es.foldl addE (List.replicate n []))[v]? = some m ∧ l.Perm m ∧ l.Pairwise (· ≤ ·) := fun v l hl => by
        clear hd hsz' el c' hlen hsz
        generalize es.foldl addE (List.replicate n []) = ms at mb ⊢
        clear ry
        induction mb generalizing v with
        | nil => simp at hl
        | @cons a b as bs r t ih =>
          cases v with
          | zero => cases hl; exact ⟨b, rfl, r⟩
          | succ v => exact ih v hl
      have hszl : ∀ (v : Nat) (l : List Nat), ys[v]? = some l → l.length ≤ 2000 := fun v l hl => by
        obtain ⟨m, hm, hp, _⟩ := key v l hl
        have h1 := adds_sz es (List.replicate n []) 0 (fun l h => by rw [(List.mem_replicate.mp h).2]; exact Nat.le_refl _) m (List.mem_of_getElem? hm)
        have h2 : es.length ≤ 1000 := wf.sm
        rw [hp.length_eq]
        omega
      refine ⟨?_, fun v l hl u => ?_, fun v l hl => (key v l hl).elim fun m h => h.2.2, hszl⟩
      · have h2 : ys.length = (es.foldl addE (List.replicate n [])).length := by
          clear hd hsz' el c' hlen hsz key ry hszl
          generalize es.foldl addE (List.replicate n []) = ms at mb
          induction mb with
          | nil => rfl
          | cons _ _ ih => rw [List.length_cons, List.length_cons, ih]
        rw [h2, el]
      · obtain ⟨m, hm, hp, _⟩ := key v l hl
        rw [hp.mem_iff]
        have h3 := adds_mem es (List.replicate n []) (fun x hx => by rw [List.length_replicate]; exact hpr x hx) v u
        rw [getD_of hm] at h3
        rw [h3]
        constructor
        · rintro (h | h)
          · rw [List.getD_eq_getElem?_getD, List.getElem?_replicate] at h
            split at h
            · exact absurd h List.not_mem_nil
            · exact absurd h List.not_mem_nil
          · exact h
        · exact .inr
end
section
variable {P : Program} {w : World} {K : PySem.W.Frag} {mg : Str → Option Value} {base : Heap}
theorem sc_nears_of : FnScope ["web", "found", "one", "other", "field", "told"] ["web"] (defScope (top 10)) := ⟨rfl, rfl, rfl, by decide +kernel, rfl, by decide +kernel, by decide +kernel⟩
theorem c_nears_of (D : Def K mg "nears_of" (top 10) ["web"]) (B : Bi mg) : Cal P w K mg base 1 "nears_of" (spNears K) := by
  refine D.cal sc_nears_of (fun vs H Q E h => ?_) (fun f cdv A outer s H vs Q E hr h => ?_)
  · obtain ⟨F, v, wb, rfl, _⟩ := h
    rfl
  · obtain ⟨F, v, wb, rfl, e, hv, wf, q⟩ := h
    exact ⟨tNears K, (pss_cons (ps_setLc (i := 1) (own := [("field", 4)]) rfl sc_nears_of.nd rfl rfl (sw_true rfl rfl rfl (by decide +kernel)) (pi_range1 (by rfl) B.range (pa_cons (pe_ix (ix_tup' K) (pv 0) pe_int (fun _ _ => rfl)) pa_nil)) (blkOk_by (N := ["web", "found", "one", "other", "field", "told"]) (sc := defScope (top 10)) (by decide +kernel)) (fun _ _ _ _ _ => (pg_name (i := 4) sc_nears_of.nd rfl (.inl rfl))) (fun _ _ _ _ _ => pts_nil) (fun _ _ _ _ _ => (pe_lst pa_nil)))
      (pss_cons (ps_for PassesOwn.never rfl (pi_tup' K (pe_ix (ix_tup' K) (pv 0) pe_int (fun _ _ => rfl))) (pg_tup' (n := 2) K rfl (pgs_cons (pg_name (i := 2) sc_nears_of.nd rfl (.inl rfl)) (pgs_cons (pg_name (i := 3) sc_nears_of.nd rfl (.inl rfl)) pgs_nil)))
       ((pss_cons (ps_expr (pe_bm' K PySem.F.plainAttrs_list PySem.F.slot_list_append PySem.F.type_list_append mt_append (pe_ix (ix_list' K) (pv 1) (pv 2) (fun _ _ => rfl)) (pa_cons (pv 3) pa_nil)))
       (pss_one (ps_expr (pe_bm' K PySem.F.plainAttrs_list PySem.F.slot_list_append PySem.F.type_list_append mt_append (pe_ix (ix_list' K) (pv 1) (pv 3) (fun _ _ => rfl)) (pa_cons (pv 2) pa_nil)))))))
      (pss_one (ps_ret (pe_lc (own := [("told", 5)]) rfl sc_nears_of.nd (pi_list' K (pv 1)) (blkOk_by (N := ["web", "found", "one", "other", "field", "told"]) (sc := defScope (top 10)) (by decide +kernel)) (fun _ _ _ _ _ => (pg_name (i := 5) sc_nears_of.nd rfl (.inl rfl))) (fun _ _ _ _ _ => pts_nil) (fun _ _ _ _ _ => (pe_callB (cr_sortedI' K) (by rfl) B.sorted (by decide +kernel) (pa_cons (pv 5) pa_nil)))))))), read_nears rfl e hv wf q⟩
theorem sc_law_nears : FnScope ["_law_web_here", "_law_found", "_law_one", "_law_other", "_law_field", "_law_told"] ["_law_web_here"] (defScope (top 42)) := ⟨rfl, rfl, rfl, by decide +kernel, rfl, by decide +kernel, by decide +kernel⟩
theorem c_law_nears (D : Def K mg "_law_nears" (top 42) ["_law_web_here"]) (B : Bi mg) : Cal P w K mg base 1 "_law_nears" (spNears K) := by
  refine D.cal sc_law_nears (fun vs H Q E h => ?_) (fun f cdv A outer s H vs Q E hr h => ?_)
  · obtain ⟨F, v, wb, rfl, _⟩ := h
    rfl
  · obtain ⟨F, v, wb, rfl, e, hv, wf, q⟩ := h
    exact ⟨tNears K, (pss_cons (ps_setLc (i := 1) (own := [("_law_field", 4)]) rfl sc_law_nears.nd rfl rfl (sw_true rfl rfl rfl (by decide +kernel)) (pi_range1 (by rfl) B.range (pa_cons (pe_ix (ix_tup' K) (pv 0) pe_int (fun _ _ => rfl)) pa_nil)) (blkOk_by (N := ["_law_web_here", "_law_found", "_law_one", "_law_other", "_law_field", "_law_told"]) (sc := defScope (top 42)) (by decide +kernel)) (fun _ _ _ _ _ => (pg_name (i := 4) sc_law_nears.nd rfl (.inl rfl))) (fun _ _ _ _ _ => pts_nil) (fun _ _ _ _ _ => (pe_lst pa_nil)))
      (pss_cons (ps_for PassesOwn.never rfl (pi_tup' K (pe_ix (ix_tup' K) (pv 0) pe_int (fun _ _ => rfl))) (pg_tup' (n := 2) K rfl (pgs_cons (pg_name (i := 2) sc_law_nears.nd rfl (.inl rfl)) (pgs_cons (pg_name (i := 3) sc_law_nears.nd rfl (.inl rfl)) pgs_nil)))
       ((pss_cons (ps_expr (pe_bm' K PySem.F.plainAttrs_list PySem.F.slot_list_append PySem.F.type_list_append mt_append (pe_ix (ix_list' K) (pv 1) (pv 2) (fun _ _ => rfl)) (pa_cons (pv 3) pa_nil)))
       (pss_one (ps_expr (pe_bm' K PySem.F.plainAttrs_list PySem.F.slot_list_append PySem.F.type_list_append mt_append (pe_ix (ix_list' K) (pv 1) (pv 3) (fun _ _ => rfl)) (pa_cons (pv 2) pa_nil)))))))
      (pss_one (ps_ret (pe_lc (own := [("_law_told", 5)]) rfl sc_law_nears.nd (pi_list' K (pv 1)) (blkOk_by (N := ["_law_web_here", "_law_found", "_law_one", "_law_other", "_law_field", "_law_told"]) (sc := defScope (top 42)) (by decide +kernel)) (fun _ _ _ _ _ => (pg_name (i := 5) sc_law_nears.nd rfl (.inl rfl))) (fun _ _ _ _ _ => pts_nil) (fun _ _ _ _ _ => (pe_callB (cr_sortedI' K) (by rfl) B.sorted (by decide +kernel) (pa_cons (pv 5) pa_nil)))))))), read_nears rfl e hv wf q⟩
end
end Tr
namespace Tr
open PySem PySem.Spec PyProof.Rows L2 Evl RZ
/-! ### distances, the plain law -/
def Conn (wb : Web) : Prop := ∀ f, f < wb.1 → ∀ Q : Nat → Prop, Q f → (∀ u v, Q u → Adj wb.2 u v → Q v) → ∀ v, v < wb.1 → Q v
structure Away (wb : Web) (f : Nat) (ds : List Nat) : Prop where
  len : ds.length = wb.1
  at0 : ds[f]? = some 0
  back : ∀ (v d : Nat), ds[v]? = some d → v ≠ f → ∃ u d', Adj wb.2 u v ∧ ds[u]? = some d' ∧ d = d' + 1
theorem Adj.symm {es : List (Nat × Nat)} {u v : Nat} (h : Adj es u v) : Adj es v u := h.elim .inr .inl
theorem WebForm.adj {wb : Web} (w : WebForm wb) {u v : Nat} (h : Adj wb.2 u v) : u < wb.1 ∧ v < wb.1 ∧ u ≠ v := by
  rcases h with h | h
  · have := w.pr _ h
    simp only at this
    omega
  · have := w.pr _ h
    simp only at this
    omega
def Has (fs : List (Option Nat)) (v : Nat) : Prop := ∃ d, fs[v]? = some (some d)
structure Found (wb : Web) (f : Nat) (fs : List (Option Nat)) : Prop where
  len : fs.length = wb.1
  at0 : fs[f]? = some (some 0)
  back : ∀ (v d : Nat), fs[v]? = some (some d) → v ≠ f → ∃ u d', Adj wb.2 u v ∧ fs[u]? = some (some d') ∧ d = d' + 1
def holes (fs : List (Option Nat)) : Nat := fs.countP Option.isNone
theorem holes_put : ∀ {fs : List (Option Nat)} {u x : Nat}, fs[u]? = some none → holes (fs.set u (some x)) + 1 = holes fs
  | [], u, x, h => by simp at h
  | a :: r, 0, x, h => by
    cases h
    unfold holes
    rw [List.set_cons_zero, List.countP_cons, List.countP_cons]
    rfl
  | a :: r, u + 1, x, h => by
    have := holes_put (fs := r) (u := u) (x := x) h
    unfold holes at this ⊢
    rw [List.set_cons_succ, List.countP_cons, List.countP_cons]
    omega
theorem get_put {fs : List (Option Nat)} {u v x : Nat} {d : Nat} (hu : fs[u]? = some none) (h : fs[v]? = some (some d)) : (fs.set u (some x))[v]? = some (some d) := by
  rw [List.getElem?_set_ne (fun z => by rw [z, h] at hu; cases hu)]
  exact h
theorem get_put_same {fs : List (Option Nat)} {u x : Nat} (hu : fs[u]? = some none) : (fs.set u (some x))[u]? = some (some x) := by
  rw [List.getElem?_set_self (List.getElem?_eq_some_iff.mp hu).1]
theorem Has.put {fs : List (Option Nat)} {u v x : Nat} (hu : fs[u]? = some none) (h : Has fs v) : Has (fs.set u (some x)) v := by
  obtain ⟨d, h⟩ := h
  exact ⟨d, get_put hu h⟩
theorem Has.back {fs : List (Option Nat)} {u v x : Nat} (h : Has (fs.set u (some x)) v) : v = u ∨ Has fs v := by
  obtain ⟨d, h⟩ := h
  by_cases e : v = u
  · exact .inl e
  · rw [List.getElem?_set_ne (fun z => e z.symm)] at h
    exact .inr ⟨d, h⟩
theorem Found.put {wb : Web} {f : Nat} {fs : List (Option Nat)} (F : Found wb f fs) {c u d : Nat} (hc : fs[c]? = some (some d)) (hu : fs[u]? = some none) (ha : Adj wb.2 c u) : Found wb f (fs.set u (some (d + 1))) := by
  refine ⟨by rw [List.length_set]; exact F.len, get_put hu F.at0, fun v d2 hv hf => ?_⟩
  by_cases e : v = u
  · subst e
    rw [get_put_same hu] at hv
    have e2 : d + 1 = d2 := Option.some.inj (Option.some.inj hv)
    exact ⟨c, d, ha, get_put hu hc, e2.symm⟩
  · rw [List.getElem?_set_ne (fun z => e z.symm)] at hv
    obtain ⟨w, d', a, b, c'⟩ := F.back v d2 hv hf
    exact ⟨w, d', a, get_put hu b, c'⟩
theorem Found.away {wb : Web} {f : Nat} {fs : List (Option Nat)} (F : Found wb f fs) (h : ∀ v, v < wb.1 → Has fs v) : ∃ ds : List Nat, fs = ds.map some ∧ Away wb f ds := by
  have e : fs = (fs.map (·.getD 0)).map some := by
    refine List.ext_getElem? fun i => ?_
    rw [List.map_map, List.getElem?_map]
    by_cases hi : i < fs.length
    · obtain ⟨d, hd⟩ := h i (by rw [← F.len]; exact hi)
      rw [hd]
      rfl
    · rw [List.getElem?_eq_none (by omega)]
      rfl
  refine ⟨fs.map (·.getD 0), e, by rw [List.length_map]; exact F.len, by rw [List.getElem?_map, F.at0]; rfl, fun v d hv hf => ?_⟩
  have conv : ∀ {v d : Nat}, (fs.map (·.getD 0))[v]? = some d → fs[v]? = some (some d) := fun {v d} hv => by
    rw [e, List.getElem?_map, hv]
    rfl
  obtain ⟨u, d', a, b, c⟩ := F.back v d (conv hv) hf
  exact ⟨u, d', a, by rw [List.getElem?_map, b]; rfl, c⟩
theorem start_found {wb : Web} {f : Nat} (hf : f < wb.1) : Found wb f ((List.replicate wb.1 none).set f (some 0)) := by
  refine ⟨by rw [List.length_set, List.length_replicate], by rw [List.getElem?_set_self (by rw [List.length_replicate]; exact hf)], fun v d hv hne => ?_⟩
  rw [List.getElem?_set_ne (fun z => hne z.symm), List.getElem?_replicate] at hv
  split at hv
  · cases hv
  · cases hv
theorem start_has {n f v : Nat} (h : Has ((List.replicate n none).set f (some 0)) v) : v = f := by
  rcases h.back with e | ⟨d, h⟩
  · exact e
  · rw [List.getElem?_replicate] at h
    split at h
    · cases h
    · cases h
theorem start_holes {n f : Nat} (hf : f < n) : holes ((List.replicate n none).set f (some 0)) + 1 = n := by
  rw [holes_put (by rw [List.getElem?_replicate, if_pos hf])]
  unfold holes
  rw [List.countP_replicate]
  rfl
/-- the queue ls, the fields ahead of place k done -/
structure Bfs (wb : Web) (f : Nat) (fs : List (Option Nat)) (ls : List Nat) (k : Nat) : Prop where
  fd : Found wb f fs
  has : ∀ v ∈ ls, Has fs v
  all : ∀ v, Has fs v → v ∈ ls
  sz : ls.length + holes fs = wb.1
  done : ∀ i v, i < k → ls[i]? = some v → ∀ u, Adj wb.2 v u → Has fs u
theorem Bfs.put {wb : Web} {f : Nat} {fs : List (Option Nat)} {ls : List Nat} {k : Nat} (B : Bfs wb f fs ls k) {c u d : Nat} (hk : k ≤ ls.length) (hc : fs[c]? = some (some d)) (hu : fs[u]? = some none) (ha : Adj wb.2 c u) : Bfs wb f (fs.set u (some (d + 1))) (ls ++ [u]) k := by
  refine ⟨B.fd.put hc hu ha, fun v hv => ?_, fun v hv => ?_, ?_, fun i v hi hv w hw => ?_⟩
  · rcases List.mem_append.mp hv with h | h
    · exact (B.has v h).put hu
    · rw [List.mem_singleton] at h
      rw [h]
      exact ⟨d + 1, get_put_same hu⟩
  · rcases hv.back with h | h
    · rw [h]; exact List.mem_append_right _ (List.mem_singleton.mpr rfl)
    · exact List.mem_append_left _ (B.all v h)
  · have h1 := holes_put (x := d + 1) hu
    have h2 := B.sz
    rw [List.length_append, List.length_singleton]
    omega
  · rw [List.getElem?_append_left (by omega)] at hv
    exact (B.done i v hi hv w hw).put hu
theorem Bfs.end_ {wb : Web} {f : Nat} {fs : List (Option Nat)} {ls : List Nat} (B : Bfs wb f fs ls ls.length) (hf : f < wb.1) (hc : Conn wb) : ∃ ds : List Nat, fs = ds.map some ∧ Away wb f ds :=
  B.fd.away (hc f hf (Has fs) ⟨0, B.fd.at0⟩ fun u v hu ha => by
    obtain ⟨i, hi⟩ := List.getElem?_of_mem (B.all u hu)
    exact B.done i u (List.getElem?_eq_some_iff.mp hi).1 hi v ha)
/-! ### the walk of reach_of -/
def oV : Option Nat → V
  | none => .non
  | some k => nV k
theorem seq_opts {H : Hp} : ∀ (fs : List (Option Nat)), rSeq (rOpt rNat) H (fs.map oV) fs
  | [] => .nil
  | none :: r => .cons rfl (seq_opts r)
  | some k :: r => .cons rfl (seq_opts r)
theorem opts_of {H : Hp} : ∀ {vs : List V} {fs : List (Option Nat)}, rSeq (rOpt rNat) H vs fs → vs = fs.map oV
  | _, _, .nil => rfl
  | _, _, @Paired.cons _ _ _ a b as bs h t => by
    rw [List.map_cons, ← opts_of t]
    refine congrArg (· :: _) ?_
    cases b with
    | none => exact h
    | some k => exact h
theorem opts_some (ds : List Nat) : (ds.map some).map oV = ds.map nV := by
  rw [List.map_map]
  rfl
theorem oV_none {o : Option Nat} : decide (oV o = .non) = o.isNone := by
  cases o with
  | none => rfl
  | some k => exact decide_eq_false (fun z => nomatch z)
/-- an item of a cell that is written -/
theorem ev_cellI {K : PySem.W.Frag} {σ : L2.St} {H : Hp} {L : Addr} {ws : List V} {i : Nat} {v : V} {ta tb : TE} (h : H L = some (.lst ws)) (ha : Ev ta σ H (.ref L)) (hb : Ev tb σ H (.int (i : Int))) (hv : ws[i]? = some v) : Ev (tOp (rIxL K) ta tb) σ H v :=
  ev_op ha hb (rv_ixL (SqL.of h) (atI_nat hv))
theorem rv_notN {H : Hp} {x : V} : RV (fun x y H Q => y = V.non ∧ Q (.bl (!decide (x = .non))) H) x .non H (.bl (!decide (x = .non))) := fun H1 e Q q => ⟨rfl, q H1 (Ex.refl H1)⟩
theorem rv_isN {H : Hp} {x : V} : RV (fun x y H Q => y = V.non ∧ Q (.bl (decide (x = .non))) H) x .non H (.bl (decide (x = .non))) := fun H1 e Q q => ⟨rfl, q H1 (Ex.refl H1)⟩
section
variable {P : Program} {w : World} {K : PySem.W.Frag} {mg : Str → Option Value} {base : Heap}
def spReach (K : PySem.W.Frag) : Sp := fun vs H Q _ => ∃ (F : Hp) (v : V) (wb : Web) (f : Nat), vs = [v, .int (f : Int)] ∧ Ex F H ∧ rWeb K F v wb ∧ WebForm wb ∧ Conn wb ∧ f < wb.1 ∧ ∀ ds x G H2, Away wb f ds → Grow F H G H2 → rLst K rNat G x ds → Q x H2
theorem sc_reach_of : FnScope ["web", "first", "nears", "found", "line", "at", "field"] ["web", "first"] (defScope (top 11)) := ⟨rfl, rfl, rfl, by decide +kernel, rfl, by decide +kernel, by decide +kernel⟩
theorem c_reach_of (D : Def K mg "reach_of" (top 11) ["web", "first"]) (B : Bi mg) (c_nears_of : Cal P w K mg base 1 "nears_of" (spNears K)) : Cal P w K mg base 2 "reach_of" (spReach K) := by
  refine D.cal sc_reach_of (fun vs H Q E h => ?_) (fun fa cdv A outer s H vs Q E hr h => ?_)
  · obtain ⟨F, v, wb, f, rfl, _⟩ := h
    rfl
  · obtain ⟨F, v, wb, f, rfl, e, hv, wf, hc, hf, q⟩ := h
    refine ⟨_, (pss_cons (ps_par3 (i := 2) (j := 3) (l := 4) rfl sc_reach_of.nd rfl rfl rfl (by decide) (by decide) (by decide) rfl rfl rfl (pa_cons (pe_k c_nears_of hr (by decide) (by rfl) (pa_cons (pv 0) pa_nil)) (pa_cons (pe_op op_rep (pe_lst (pa_cons pe_non pa_nil)) (pe_ix (ix_tup' K) (pv 0) pe_int (fun _ _ => rfl))) (pa_cons (pe_lst (pa_cons (pv 1) pa_nil)) pa_nil))) (by rfl))
      (pss_cons (ps_asg pe_int (pg_sub (pv 3) (pv 1) set_list))
      (pss_cons (ps_set (i := 5) sc_reach_of.nd rfl (.inl rfl) pe_int)
      (pss_cons (ps_while PassesOwn.never (pt_cmpR op_lt (pv 5) (pe_callB (call_len' K) (by rfl) B.len PySem.boot_len (pa_cons (pv 4) pa_nil)) (nomark _))
       ((pss_cons (ps_for PassesOwn.never rfl (pi_list' K (pe_ix (ix_list' K) (pv 2) (pe_ix (ix_list' K) (pv 4) (pv 5) (fun _ _ => rfl)) (fun _ _ => rfl))) (pg_name (i := 6) sc_reach_of.nd rfl (.inl rfl))
        ((pss_one (ps_if (pt_cmpR op_isN (pe_ix (ix_list' K) (pv 3) (pv 6) (fun _ _ => rfl)) pe_non (nomark _))
         ((pss_cons (ps_asg (pe_op op_add (pe_ix (ix_list' K) (pv 3) (pe_ix (ix_list' K) (pv 4) (pv 5) (fun _ _ => rfl)) (fun _ _ => rfl)) pe_int) (pg_sub (pv 3) (pv 6) set_list))
         (pss_one (ps_expr (pe_bm' K PySem.F.plainAttrs_list PySem.F.slot_list_append PySem.F.type_list_append mt_append (pv 4) (pa_cons (pv 6) pa_nil))))))
         (pss_nil)))))
       (pss_one (ps_aug (i := 5) sc_reach_of.nd rfl (.inl rfl) pe_int ip_add)))))
      (pss_one (ps_ret (pv 3))))))), ?_⟩
    have w2 : wb.1 ≤ 60 := wf.hi
    have eN : EvP (rLst K (rLst K rNat)) (NearsOK wb) (tCall (spNears K) [] L2.E0 (tCons (tVar 0) tNil)) [some v, some (.int (f : Int)), none, none, none, none, none] F := fun H e Q q => ⟨v, rfl, F, v, wb, rfl, e, hv, wf, q⟩
    refine q_par3 (eN H e _ fun ns x G1 H1 hns g1 rx => (evn_rep (F := G1) (ev_nat (evr_pr0 (R := rNat) (S := rTup K (rEdge K)) (x := wb.1) (y := wb.2) (evr_var rfl (Mono.mono g1.fz hv)) ev_c)) (by omega)) H1 g1.sub _ fun ys Lf vs G2 H2 hys g2 n1 n2 h2 r2 => (evn_one (R := rNat) (x := f) (F := G2) (ev_var rfl) fun _ _ => rfl) H2 g2.sub _ fun zs Ll ws G3 H3 hzs g3 n3 n4 h3 r3 => ⟨x, .ref Lf, .ref Ll, rfl, ?_⟩)
    subst hys hzs
    have gA := (g1.trans g2).trans g3
    have nLf : G3 Lf = none := g3.gone n1 h2
    have hLf : H3 Lf = some (.lst ((List.replicate wb.1 none).map oV)) := by rw [← opts_of r2]; exact g3.act _ _ h2
    have hLl : H3 Ll = some (.lst ([f].map nV)) := by rw [← nats_of r3]; exact h3
    have nHf : H Lf = none := fresh_back g1.act n2
    have nHl : H Ll = none := fresh_back (g1.act.trans g2.act) n4
    have dfl : Lf ≠ Ll := fun z => by rw [z] at h2; rw [h2] at n4; cases n4
    have rx3 : rLst K (rLst K rNat) G3 x ns := Mono.mono (g2.fz.trans g3.fz) rx
    -- found[first] = 0
    refine q_putV (j := f) hLf ev_c (ev_var rfl) (ev_var rfl) (by rw [List.length_map, List.length_replicate]; exact hf) fun H4 x4 => ?_
    -- at = 0
    refine q_setV ev_c (Ex.refl _) fun H5 x5 => ?_
    have g5 : Grow F H G3 H5 := ((gA.ex x4).wr nLf nHf).ex x5
    have hLf5 : H5 Lf = some (.lst (((List.replicate wb.1 none).set f (some 0)).map oV)) := by
      rw [List.map_set]
      exact x5 _ _ upd_same
    have hLl5 : H5 Ll = some (.lst ([f].map nV)) := x5 _ _ (by rw [upd_ne dfl.symm]; exact x4 _ _ hLl)
    -- the while
    refine q_while (fun m σ' H' => ∃ y6 fs ls k, σ' = [some v, some (.int (f : Int)), some x, some (.ref Lf), some (.ref Ll), some (.int ((k : Nat) : Int)), y6] ∧ m = wb.1 - k ∧ k ≤ ls.length ∧ Bfs wb f fs ls k ∧ Grow F H G3 H' ∧ H' Lf = some (.lst (fs.map oV)) ∧ H' Ll = some (.lst (ls.map nV)))
      wb.1 ⟨none, _, [f], 0, rfl, rfl, Nat.zero_le _, ⟨start_found hf, fun v hv => ?_, fun v hv => ?_, ?_, fun i _ hi => absurd hi (Nat.not_lt_zero i)⟩, g5, hLf5, hLl5⟩ ?_
    · rw [List.mem_singleton] at hv
      rw [hv]
      exact ⟨0, (start_found hf).at0⟩
    · rw [start_has hv]; exact List.mem_singleton.mpr rfl
    · have := start_holes hf
      rw [List.length_singleton]
      omega
    · rintro m σ' H' ⟨y6, fs, ls, k, rfl, rfl, hk, BF, gr, hf1, hl1⟩
      have elen : Ev (tCB (rLenS K) (tCons (tVar 4) tNil)) [some v, some (.int (f : Int)), some x, some (.ref Lf), some (.ref Ll), some (.int ((k : Nat) : Int)), y6] H' (.int (ls.length : Int)) := by
        have := Evl.ev_len (K := K) (ta := tVar 4) (σ := [some v, some (.int (f : Int)), some x, some (.ref Lf), some (.ref Ll), some (.int ((k : Nat) : Int)), y6]) (ev_var rfl) (SqL.of hl1)
        rw [List.length_map] at this
        exact this
      refine ⟨decide ((k : Int) < (ls.length : Int)), et_test (ev_op (ev_var rfl) elen rv_I0), fun hlt H6 x6 => ?_, fun hlt H6 x6 => ?_⟩
      · have hkl : k < ls.length := by have := of_decide_eq_true hlt; omega
        obtain ⟨cur, hcur⟩ : ∃ cur, ls[k]? = some cur := ⟨_, List.getElem?_eq_getElem hkl⟩
        obtain ⟨dc, hdc⟩ := BF.has cur (List.mem_of_getElem? hcur)
        have hcn : cur < wb.1 := by rw [← BF.fd.len]; exact (List.getElem?_eq_some_iff.mp hdc).1
        obtain ⟨nb, hnb⟩ : ∃ nb, ns[cur]? = some nb := ⟨_, List.getElem?_eq_getElem (by rw [hns.len]; exact hcn)⟩
        have hnbm := hns.mem cur nb hnb
        refine ⟨fun σ2 H2 => ∃ y6 fs ls, σ2 = [some v, some (.int (f : Int)), some x, some (.ref Lf), some (.ref Ll), some (.int (((k + 1 : Nat)) : Int)), y6] ∧ k + 1 ≤ ls.length ∧ Bfs wb f fs ls (k + 1) ∧ Grow F H G3 H2 ∧ H2 Lf = some (.lst (fs.map oV)) ∧ H2 Ll = some (.lst (ls.map nV)),
          fun σ2 H2 ⟨y6, fs, ls, h1, h2, h3, h4⟩ => ⟨wb.1 - (k + 1), by have := BF.sz; omega, y6, fs, ls, k + 1, h1, rfl, h2, h3, h4⟩, ?_⟩
        have gr6 := gr.ex x6
        -- for field in nears[line[at]]
        obtain ⟨pn, vn, epn, hpn, rpn⟩ := rx3
        obtain ⟨vnb, hvnb, rnb⟩ := seq_get rpn hnb
        have eit : Ev (tOp (rIxL K) (tVar 2) (tOp (rIxL K) (tVar 4) (tVar 5))) [some v, some (.int (f : Int)), some x, some (.ref Lf), some (.ref Ll), some (.int ((k : Nat) : Int)), y6] H6 vnb := by
          subst epn
          exact ev_op (ev_var rfl) (ev_cellI (i := k) (x6 _ _ hl1) (ev_var rfl) (ev_var rfl) (by rw [List.getElem?_map, hcur]; rfl)) (rv_ixL (ex_l gr6.sub hpn) (atI_nat hvnb))
        refine q_for_lstV eit rnb (fun i σ' H' => ∃ y6 fs ls, σ' = [some v, some (.int (f : Int)), some x, some (.ref Lf), some (.ref Ll), some (.int ((k : Nat) : Int)), y6] ∧ k < ls.length ∧ ls[k]? = some cur ∧ fs[cur]? = some (some dc) ∧ Bfs wb f fs ls k ∧ Grow F H G3 H' ∧ H' Lf = some (.lst (fs.map oV)) ∧ H' Ll = some (.lst (ls.map nV)) ∧ ∀ u ∈ nb.take i, Has fs u)
          (fun i σ' H' ⟨_, _, _, _, _, _, _, _, g, _⟩ => g.sub) gr6.sub (fun H2 e2 => ⟨y6, fs, ls, rfl, hkl, hcur, hdc, BF, gr6.ex e2, e2 _ _ (x6 _ _ hf1), e2 _ _ (x6 _ _ hl1), fun u hu => by rw [List.take_zero] at hu; exact absurd hu List.not_mem_nil⟩)
          (fun i u vu σ' H' hu rvu ⟨y6', fs', ls', hσ, hkl', hcur', hdc', BF', gr', hf', hl', hdone⟩ => ?_) (fun σ' H' ⟨y6', fs', ls', hσ, hkl', hcur', hdc', BF', gr', hf', hl', hdone⟩ => ?_)
        · subst hσ
          cases (show vu = .int (u : Int) from rvu)
          have hau : Adj wb.2 cur u := (hnbm u).mp (List.mem_of_getElem? hu)
          have hun : u < wb.1 := (wf.adj hau).2.1
          obtain ⟨ou, hou⟩ : ∃ ou, fs'[u]? = some ou := ⟨_, List.getElem?_eq_getElem (by rw [BF'.fd.len]; exact hun)⟩
          have hlz : ls'.length ≤ 60 := by have := BF'.sz; omega
          refine s_ifB (F := H') (et_test (ev_op (ev_cellI (i := u) hf' (ev_var rfl) (ev_var rfl) (by rw [List.getElem?_map, hou]; rfl)) ev_c rv_isN)) (Ex.refl H') (fun hb H7 x7 => ?_) (fun hb H7 x7 => ?_)
          · rw [oV_none] at hb
            have hou2 : ou = none := by
              cases ou with
              | none => rfl
              | some z => cases hb
            subst hou2
            refine q_putV (j := u) (x7 _ _ hf') (ev_op (ev_cellI (i := cur) (v := .int (dc : Int)) (x7 _ _ hf') (ev_var rfl) (ev_cellI (i := k) (x7 _ _ hl') (ev_var rfl) (ev_var rfl) (by rw [List.getElem?_map, hcur']; rfl)) (by rw [List.getElem?_map, hdc']; rfl)) ev_c rv_I0) (ev_var rfl) (ev_var rfl) (by rw [List.length_map, BF'.fd.len]; exact hun) fun H8 x8 => ?_
            have gr8 : Grow F H G3 (upd H8 Lf (.lst ((fs'.map oV).set u (.int ((dc : Int) + 1))))) := ((gr'.ex x7).ex x8).wr nLf nHf
            refine s_appendV (ws := ls'.map nV) (by rw [upd_ne dfl.symm]; exact x8 _ _ (x7 _ _ hl')) (ev_var rfl) (ev_var rfl) (by rw [List.length_map]; omega) fun H9 x9 => ?_
            have gr9 := (gr8.ex x9).wr (o := .lst (ls'.map nV ++ [V.int (u : Int)])) n3 nHl
            refine ⟨_, fs'.set u (some (dc + 1)), ls' ++ [u], rfl, by rw [List.length_append]; omega, by rw [List.getElem?_append_left hkl']; exact hcur', get_put hou hdc', BF'.put (Nat.le_of_lt hkl') hdc' hou hau, gr9, ?_, ?_, fun z hz => ?_⟩
            · rw [upd_ne dfl, x9 _ _ upd_same, List.map_set]
              rfl
            · rw [upd_same, List.map_append]
              rfl
            · rw [List.take_add_one, hu] at hz
              rcases List.mem_append.mp hz with hz | hz
              · exact (hdone z hz).put hou
              · have : z = u := by simpa using hz
                rw [this]
                exact ⟨dc + 1, get_put_same hou⟩
          · rw [oV_none] at hb
            obtain ⟨z, rfl⟩ : ∃ z, ou = some z := by
              cases ou with
              | none => cases hb
              | some z => exact ⟨z, rfl⟩
            refine s_next ⟨_, fs', ls', rfl, hkl', hcur', hdc', BF', gr'.ex x7, x7 _ _ hf', x7 _ _ hl', fun t ht => ?_⟩
            rw [List.take_add_one, hu] at ht
            rcases List.mem_append.mp ht with ht | ht
            · exact hdone t ht
            · have : t = u := by simpa using ht
              rw [this]
              exact ⟨z, hou⟩
        · subst hσ
          rw [List.take_length] at hdone
          refine s_augI (d := 1) rfl ev_c (Ex.refl H') fun H7 x7 => ⟨y6', fs', ls', rfl, hkl', ⟨BF'.fd, BF'.has, BF'.all, BF'.sz, fun i t hi ht u hu => ?_⟩, gr'.ex x7, x7 _ _ hf', x7 _ _ hl'⟩
          by_cases hik : i < k
          · exact BF'.done i t hik ht u hu
          · have : i = k := by omega
            rw [this, hcur'] at ht
            cases ht
            exact hdone u ((hnbm u).mpr hu)
      · have hge : ls.length ≤ k := by have := of_decide_eq_false hlt; omega
        have hkk : k = ls.length := by omega
        subst hkk
        obtain ⟨ds, rfl, hA⟩ := BF.end_ hf hc
        rw [opts_some] at hf1
        have gr6 := (gr.ex x6).put nHf (x6 _ _ hf1)
        refine s_retV (F := H6) (v := .ref Lf) (ev_var rfl) (Ex.refl H6) fun H7 x7 => q ds _ _ _ hA (gr6.ex x7) ⟨Lf, _, rfl, SqL.of upd_same, seq_nats ds⟩
end
end Tr
namespace Tr
open PySem PySem.Spec PyProof.Rows L2 Evl RZ
/-! ### level by level -/
def Done (wb : Web) (fs : List (Option Nat)) (v : Nat) : Prop := ∀ u, Adj wb.2 v u → Has fs u
theorem Done.put {wb : Web} {fs : List (Option Nat)} {u v x : Nat} (hu : fs[u]? = some none) (h : Done wb fs v) : Done wb (fs.set u (some x)) v := fun z hz => (h z hz).put hu
/-- within a level: rim at distance k, lt found so far at k + 1, h0 holes ahead of the level -/
structure Lev (wb : Web) (f : Nat) (rim : List Nat) (k h0 : Nat) (fs : List (Option Nat)) (lt : List Nat) : Prop where
  fd : Found wb f fs
  rm : ∀ v ∈ rim, fs[v]? = some (some k)
  nx : ∀ v ∈ lt, fs[v]? = some (some (k + 1))
  all : ∀ v, Has fs v → v ∈ rim ∨ v ∈ lt ∨ Done wb fs v
  sz : lt.length + holes fs = h0
theorem Lev.put {wb : Web} {f : Nat} {rim : List Nat} {k h0 : Nat} {fs : List (Option Nat)} {lt : List Nat} (L : Lev wb f rim k h0 fs lt) {c u : Nat} (hc : c ∈ rim) (hu : fs[u]? = some none) (ha : Adj wb.2 c u) : Lev wb f rim k h0 (fs.set u (some (k + 1))) (lt ++ [u]) := by
  refine ⟨L.fd.put (L.rm c hc) hu ha, fun v hv => get_put hu (L.rm v hv), fun v hv => ?_, fun v hv => ?_, ?_⟩
  · rcases List.mem_append.mp hv with h | h
    · exact get_put hu (L.nx v h)
    · rw [List.mem_singleton] at h
      rw [h]
      exact get_put_same hu
  · rcases hv.back with h | h
    · rw [h]; exact .inr (.inl (List.mem_append_right _ (List.mem_singleton.mpr rfl)))
    · rcases L.all v h with a | a | a
      · exact .inl a
      · exact .inr (.inl (List.mem_append_left _ a))
      · exact .inr (.inr (a.put hu))
  · have h1 := holes_put (x := k + 1) hu
    have h2 := L.sz
    rw [List.length_append, List.length_singleton]
    omega
section
variable {P : Program} {w : World} {K : PySem.W.Frag} {mg : Str → Option Value} {base : Heap}
theorem sc_law_far : FnScope ["_law_web_here", "_law_first", "_law_nears_here", "_law_found", "_law_rim", "_law_many", "_law_later", "_law_here", "_law_near"] ["_law_web_here", "_law_first"] (defScope (top 43)) := ⟨rfl, rfl, rfl, by decide +kernel, rfl, by decide +kernel, by decide +kernel⟩
theorem c_law_far (D : Def K mg "_law_far" (top 43) ["_law_web_here", "_law_first"]) (B : Bi mg) (c_law_nears : Cal P w K mg base 1 "_law_nears" (spNears K)) : Cal P w K mg base 2 "_law_far" (spReach K) := by
  refine D.cal sc_law_far (fun vs H Q E h => ?_) (fun fa cdv A outer s H vs Q E hr h => ?_)
  · obtain ⟨F, v, wb, f, rfl, _⟩ := h
    rfl
  · obtain ⟨F, v, wb, f, rfl, e, hv, wf, hc, hf, q⟩ := h
    refine ⟨_, (pss_cons (ps_asg (pe_tup (pa_mon (pa_cons (pe_k c_law_nears hr (by decide) (by rfl) (pa_cons (pv 0) pa_nil)) (pa_cons (pe_op op_rep (pe_lst (pa_cons pe_non pa_nil)) (pe_ix (ix_tup' K) (pv 0) pe_int (fun _ _ => rfl))) (pa_cons (pe_lst (pa_cons (pv 1) pa_nil)) (pa_cons pe_int pa_nil)))))) (pg_tup' (n := 4) K rfl (pgs_cons (pg_name (i := 2) sc_law_far.nd rfl (.inl rfl)) (pgs_cons (pg_name (i := 3) sc_law_far.nd rfl (.inl rfl)) (pgs_cons (pg_name (i := 4) sc_law_far.nd rfl (.inl rfl)) (pgs_cons (pg_name (i := 5) sc_law_far.nd rfl (.inl rfl)) pgs_nil))))))
      (pss_cons (ps_asg pe_int (pg_sub (pv 3) (pv 1) set_list))
      (pss_cons (ps_while PassesOwn.never (pt_cmpR (op_neD' K hr.units) (pv 4) (pe_lst pa_nil) (nomark _))
       ((pss_cons (ps_par (i := 5) (j := 6) rfl sc_law_far.nd rfl rfl (by decide) rfl rfl (pa_cons (pe_op op_add (pv 5) pe_int) (pa_cons (pe_lst pa_nil) pa_nil)) (by rfl))
       (pss_cons (ps_for PassesOwn.never rfl (pi_list' K (pv 4)) (pg_name (i := 7) sc_law_far.nd rfl (.inl rfl))
        ((pss_one (ps_for PassesOwn.never rfl (pi_list' K (pe_ix (ix_list' K) (pv 2) (pv 7) (fun _ _ => rfl))) (pg_name (i := 8) sc_law_far.nd rfl (.inl rfl))
         ((pss_one (ps_if (pt_cmpR op_isN (pe_ix (ix_list' K) (pv 3) (pv 8) (fun _ _ => rfl)) pe_non (nomark _))
          ((pss_cons (ps_asg (pv 5) (pg_sub (pv 3) (pv 8) set_list))
          (pss_one (ps_expr (pe_bm' K PySem.F.plainAttrs_list PySem.F.slot_list_append PySem.F.type_list_append mt_append (pv 6) (pa_cons (pv 8) pa_nil))))))
          (pss_nil))))))))
       (pss_one (ps_set (i := 4) sc_law_far.nd rfl (.inl rfl) (pv 6)))))))
      (pss_one (ps_ret (pv 3)))))), ?_⟩
    have w2 : wb.1 ≤ 60 := wf.hi
    have eN : EvP (rLst K (rLst K rNat)) (NearsOK wb) (tCall (spNears K) [] L2.E0 (tCons (tVar 0) tNil)) [some v, some (.int (f : Int)), none, none, none, none, none, none, none] F := fun H e Q q => ⟨v, rfl, F, v, wb, rfl, e, hv, wf, q⟩
    refine q_tup4 (eN H e _ fun ns x G1 H1 hns g1 rx => (evn_rep (F := G1) (ev_nat (evr_pr0 (R := rNat) (S := rTup K (rEdge K)) (x := wb.1) (y := wb.2) (evr_var rfl (Mono.mono g1.fz hv)) ev_c)) (by omega)) H1 g1.sub _ fun ys Lf vs G2 H2 hys g2 n1 n2 h2 r2 => (evn_one (R := rNat) (x := f) (F := G2) (ev_var rfl) fun _ _ => rfl) H2 g2.sub _ fun zs Lr ws G3 H3 hzs g3 n3 n4 h3 r3 => ⟨x, .ref Lf, .ref Lr, .int 0, rfl, fun pt npt => ?_⟩)
    · subst hys hzs
      have gA := ((g1.trans g2).trans g3).ex (Ex.new (o := .tup [x, .ref Lf, .ref Lr, .int 0]) npt)
      have nLf : G3 Lf = none := g3.gone n1 h2
      have hLf : (upd H3 pt (.tup [x, .ref Lf, .ref Lr, .int 0])) Lf = some (.lst ((List.replicate wb.1 none).map oV)) := by rw [← opts_of r2, upd_ne (ne_of_none (g3.act _ _ h2) npt)]; exact g3.act _ _ h2
      have hLr : (upd H3 pt (.tup [x, .ref Lf, .ref Lr, .int 0])) Lr = some (.lst ([f].map nV)) := by rw [← nats_of r3, upd_ne (ne_of_none h3 npt)]; exact h3
      have nHf : H Lf = none := fresh_back g1.act n2
      have nHr : H Lr = none := fresh_back (g1.act.trans g2.act) n4
      have dfr : Lf ≠ Lr := fun z => by rw [z] at h2; rw [h2] at n4; cases n4
      have rx3 : rLst K (rLst K rNat) G3 x ns := Mono.mono (g2.fz.trans g3.fz) rx
      -- found[first] = 0
      refine q_putV (j := f) hLf ev_c (ev_var rfl) (ev_var rfl) (by rw [List.length_map, List.length_replicate]; exact hf) fun H4 x4 => ?_
      have g5 : Grow F H G3 (upd H4 Lf (.lst (((List.replicate wb.1 none).map oV).set f (.int 0)))) := (gA.ex x4).wr nLf nHf
      have hLr5 : (upd H4 Lf (.lst (((List.replicate wb.1 none).map oV).set f (.int 0)))) Lr = some (.lst ([f].map nV)) := by rw [upd_ne dfr.symm]; exact x4 _ _ hLr
      -- the while
      refine q_while (fun m σ' H' => ∃ y6 y7 y8 Lr fs rim k, σ' = [some v, some (.int (f : Int)), some x, some (.ref Lf), some (.ref Lr), some (.int ((k : Nat) : Int)), y6, y7, y8] ∧ m = 2 * holes fs + (if rim = [] then 0 else 1) ∧ Found wb f fs ∧ (∀ v ∈ rim, fs[v]? = some (some k)) ∧ (∀ v, Has fs v → v ∈ rim ∨ Done wb fs v) ∧ rim.length ≤ wb.1 ∧ Grow F H G3 H' ∧ G3 Lr = none ∧ H Lr = none ∧ Lf ≠ Lr ∧ H' Lf = some (.lst (fs.map oV)) ∧ H' Lr = some (.lst (rim.map nV)))
        _ ⟨none, none, none, Lr, _, [f], 0, rfl, rfl, start_found hf, fun v hv => ?_, fun v hv => ?_, ?_, g5, n3, nHr, dfr, ?_, hLr5⟩ ?_
      · rw [List.mem_singleton] at hv
        rw [hv]
        exact (start_found hf).at0
      · rw [start_has hv]; exact .inl (List.mem_singleton.mpr rfl)
      · rw [List.length_singleton]; exact wf.lo
      · rw [upd_same, List.map_set]; rfl
      · clear dfr nHr n3 hLr hLr5 h3 r3 g5
        rintro m σ' H' ⟨y6, y7, y8, Lr, fs, rim, k, rfl, rfl, FD, hrm, hall, hrz, gr, ngr, nhr, dfr, hf1, hr1⟩
        refine ⟨!rim.isEmpty, et_test (ev_neNil (R := rNat) (PL := fun ys => ys = rim) (evr_var rfl (rnat_list (SqL.of hr1))) fun xs h => by rw [h]), fun hne H6 x6 => ?_, fun hem H6 x6 => ?_⟩
        · have hrn : rim ≠ [] := fun z => by rw [z] at hne; cases hne
          rw [if_neg hrn]
          have gr6 := gr.ex x6
          -- many, later = many + 1, []
          refine ⟨fun σ2 H2 => ∃ y6 y7 y8 Lr fs2 rim2, σ2 = [some v, some (.int (f : Int)), some x, some (.ref Lf), some (.ref Lr), some (.int ((k + 1 : Nat) : Int)), y6, y7, y8] ∧ 2 * holes fs2 + (if rim2 = [] then 0 else 1) < 2 * holes fs + 1 ∧ Found wb f fs2 ∧ (∀ v ∈ rim2, fs2[v]? = some (some (k + 1))) ∧ (∀ v, Has fs2 v → v ∈ rim2 ∨ Done wb fs2 v) ∧ rim2.length ≤ wb.1 ∧ Grow F H G3 H2 ∧ G3 Lr = none ∧ H Lr = none ∧ Lf ≠ Lr ∧ H2 Lf = some (.lst (fs2.map oV)) ∧ H2 Lr = some (.lst (rim2.map nV)),
            fun σ2 H2 ⟨y6, y7, y8, Lr, fs2, rim2, h1, h2, h3⟩ => ⟨_, h2, y6, y7, y8, Lr, fs2, rim2, k + 1, h1, rfl, h3⟩, ?_⟩
          refine q_par ?_
          refine (ev_op (x := .int (k : Int)) (y := .int 1) (ev_var rfl) ev_c rv_I0) H6 (Ex.refl H6) _ fun H7 x7 => ⟨Nat.zero_le _, fun Lt nLt => ⟨.int ((k : Int) + 1), .ref Lt, rfl, ?_⟩⟩
          have hf7 := x7 _ _ (x6 _ _ hf1)
          have hr7 := x7 _ _ (x6 _ _ hr1)
          have gr7 := gr6.ex x7
          have dft : Lf ≠ Lt := ne_of_none hf7 nLt
          have drt : Lr ≠ Lt := ne_of_none hr7 nLt
          have ngt : G3 Lt = none := (gr7.free nLt).2
          have nht : H Lt = none := (gr7.free nLt).1
          have gr8 := gr7.ex (Ex.new (o := .lst []) nLt)
          have hr8 : (upd H7 Lt (.lst [])) Lr = some (.lst (rim.map nV)) := by rw [upd_ne drt]; exact hr7
          have hf8 : (upd H7 Lt (.lst [])) Lf = some (.lst (fs.map oV)) := by rw [upd_ne dft]; exact hf7
          have rim0 : rLst K rNat (upd G3 Lr (.lst (rim.map nV))) (.ref Lr) rim := rnat_list (SqL.of upd_same)
          have hlev : Lev wb f rim k (holes fs) fs [] := ⟨FD, hrm, fun v hv => absurd hv List.not_mem_nil, fun v hv => (hall v hv).elim .inl (fun h => .inr (.inr h)), by rw [List.length_nil, Nat.zero_add]⟩
          have hz0 : holes fs ≤ wb.1 := by rw [← FD.len]; exact List.countP_le_length
          -- for here in rim
          refine q_for_lstV (G := upd G3 Lr (.lst (rim.map nV))) (v := .ref Lr) (ev_var rfl) rim0 (fun i σ' H' => ∃ y7 y8 fs2 lt, σ' = [some v, some (.int (f : Int)), some x, some (.ref Lf), some (.ref Lr), some (.int ((k : Int) + 1)), some (.ref Lt), y7, y8] ∧ Lev wb f rim k (holes fs) fs2 lt ∧ Grow F H G3 H' ∧ H' Lr = some (.lst (rim.map nV)) ∧ H' Lf = some (.lst (fs2.map oV)) ∧ H' Lt = some (.lst (lt.map nV)) ∧ ∀ u ∈ rim.take i, Done wb fs2 u)
            (fun i σ' H' ⟨_, _, _, _, _, _, g, h, _⟩ => Ex.updl g.sub h) (Ex.updl gr8.sub hr8) (fun H9 x9 => ⟨y7, y8, fs, [], rfl, hlev, gr8.ex x9, x9 _ _ hr8, x9 _ _ hf8, x9 _ _ upd_same, fun u hu => by rw [List.take_zero] at hu; exact absurd hu List.not_mem_nil⟩)
            (fun i c vc σ' H' hc1 rvc ⟨y7', y8', fs2, lt, hσ, LV, gr', hr', hf', ht', hdn⟩ => ?_) (fun σ' H' ⟨y7', y8', fs2, lt, hσ, LV, gr', hr', hf', ht', hdn⟩ => ?_)
          · subst hσ
            cases (show vc = .int (c : Int) from rvc)
            have hcm : c ∈ rim := List.mem_of_getElem? hc1
            have hcn : c < wb.1 := by rw [← LV.fd.len]; exact (List.getElem?_eq_some_iff.mp (LV.rm c hcm)).1
            obtain ⟨nb, hnb⟩ : ∃ nb, ns[c]? = some nb := ⟨_, List.getElem?_eq_getElem (by rw [hns.len]; exact hcn)⟩
            have hnbm := hns.mem c nb hnb
            obtain ⟨pn, vn, epn, hpn, rpn⟩ := rx3
            obtain ⟨vnb, hvnb, rnb⟩ := seq_get rpn hnb
            -- for near in nears[here]
            refine s_for_lstV (v := vnb) (G := G3) (xs := nb) (by subst epn; exact ev_op (ev_var rfl) (ev_var rfl) (rv_ixL (ex_l gr'.sub hpn) (atI_nat hvnb))) rnb (fun j σ' H' => ∃ y8 fs3 lt3, σ' = [some v, some (.int (f : Int)), some x, some (.ref Lf), some (.ref Lr), some (.int ((k : Int) + 1)), some (.ref Lt), some (.int (c : Int)), y8] ∧ Lev wb f rim k (holes fs) fs3 lt3 ∧ Grow F H G3 H' ∧ H' Lr = some (.lst (rim.map nV)) ∧ H' Lf = some (.lst (fs3.map oV)) ∧ H' Lt = some (.lst (lt3.map nV)) ∧ (∀ u ∈ rim.take i, Done wb fs3 u) ∧ ∀ u ∈ nb.take j, Has fs3 u)
              (fun j σ' H' ⟨_, _, _, _, _, g, _⟩ => g.sub) gr'.sub (fun H9 x9 => ⟨y8', fs2, lt, rfl, LV, gr'.ex x9, x9 _ _ hr', x9 _ _ hf', x9 _ _ ht', hdn, fun u hu => by rw [List.take_zero] at hu; exact absurd hu List.not_mem_nil⟩)
              (fun j u vu σ' H' hu rvu ⟨y8'', fs3, lt3, hσ, LV3, gr3, hr3, hf3, ht3, hdn3, hhas⟩ => ?_) (fun σ' H' ⟨y8'', fs3, lt3, hσ, LV3, gr3, hr3, hf3, ht3, hdn3, hhas⟩ => ?_)
            · subst hσ
              cases (show vu = .int (u : Int) from rvu)
              have hau : Adj wb.2 c u := (hnbm u).mp (List.mem_of_getElem? hu)
              have hun : u < wb.1 := (wf.adj hau).2.1
              obtain ⟨ou, hou⟩ : ∃ ou, fs3[u]? = some ou := ⟨_, List.getElem?_eq_getElem (by rw [LV3.fd.len]; exact hun)⟩
              have hlz : lt3.length ≤ 60 := by have := LV3.sz; omega
              refine s_ifB (F := H') (et_test (ev_op (ev_cellI (i := u) hf3 (ev_var rfl) (ev_var rfl) (by rw [List.getElem?_map, hou]; rfl)) ev_c rv_isN)) (Ex.refl H') (fun hb H8 x8 => ?_) (fun hb H8 x8 => ?_)
              · rw [oV_none] at hb
                have hou2 : ou = none := by
                  cases ou with
                  | none => rfl
                  | some z => cases hb
                subst hou2
                refine q_putV (j := u) (x8 _ _ hf3) (ev_var rfl) (ev_var rfl) (ev_var rfl) (by rw [List.length_map, LV3.fd.len]; exact hun) fun H9 x9 => ?_
                have gr9 : Grow F H G3 (upd H9 Lf (.lst ((fs3.map oV).set u (.int ((k : Int) + 1))))) := ((gr3.ex x8).ex x9).wr nLf nHf
                refine s_appendV (ws := lt3.map nV) (by rw [upd_ne dft.symm]; exact x9 _ _ (x8 _ _ ht3)) (ev_var rfl) (ev_var rfl) (by rw [List.length_map]; omega) fun HA xA => ?_
                have grA := (gr9.ex xA).wr (o := .lst (lt3.map nV ++ [V.int (u : Int)])) ngt nht
                refine ⟨_, fs3.set u (some (k + 1)), lt3 ++ [u], rfl, LV3.put hcm hou hau, grA, ?_, ?_, ?_, fun z hz => (hdn3 z hz).put hou, fun z hz => ?_⟩
                · rw [upd_ne drt, xA _ _ (by rw [upd_ne dfr.symm]; exact x9 _ _ (x8 _ _ hr3))]
                · rw [upd_ne dft, xA _ _ upd_same, List.map_set]
                  rfl
                · rw [upd_same, List.map_append]
                  rfl
                · rw [List.take_add_one, hu] at hz
                  rcases List.mem_append.mp hz with hz | hz
                  · exact (hhas z hz).put hou
                  · have : z = u := by simpa using hz
                    rw [this]
                    exact ⟨k + 1, get_put_same hou⟩
              · rw [oV_none] at hb
                obtain ⟨z, rfl⟩ : ∃ z, ou = some z := by
                  cases ou with
                  | none => cases hb
                  | some z => exact ⟨z, rfl⟩
                refine s_next ⟨_, fs3, lt3, rfl, LV3, gr3.ex x8, x8 _ _ hr3, x8 _ _ hf3, x8 _ _ ht3, hdn3, fun t ht => ?_⟩
                rw [List.take_add_one, hu] at ht
                rcases List.mem_append.mp ht with ht | ht
                · exact hhas t ht
                · have : t = u := by simpa using ht
                  rw [this]
                  exact ⟨z, hou⟩
            · subst hσ
              rw [List.take_length] at hhas
              refine ⟨_, y8'', fs3, lt3, rfl, LV3, gr3, hr3, hf3, ht3, fun z hz => ?_⟩
              rw [List.take_add_one, hc1] at hz
              rcases List.mem_append.mp hz with hz | hz
              · exact hdn3 z hz
              · have : z = c := by simpa using hz
                rw [this]
                exact fun u hu => hhas u ((hnbm u).mpr hu)
          · subst hσ
            rw [List.take_length] at hdn
            -- rim = later
            refine s_setV (ev_var rfl) (Ex.refl H') fun H9 x9 => ⟨some (.ref Lt), y7', y8', Lt, fs2, lt, rfl, ?_, LV.fd, LV.nx, fun v hv => ?_, ?_, gr'.ex x9, ngt, nht, dft, x9 _ _ hf', x9 _ _ ht'⟩
            · have h1 := LV.sz
              by_cases hl : lt = []
              · rw [if_pos hl]
                rw [hl, List.length_nil] at h1
                omega
              · rw [if_neg hl]
                have : 0 < lt.length := List.length_pos_iff.mpr hl
                omega
            · rcases LV.all v hv with h | h | h
              · exact .inr (hdn v h)
              · exact .inl h
              · exact .inr h
            · have := LV.sz
              omega
        · have hre : rim = [] := by
            cases rim with
            | nil => rfl
            | cons a r => cases hem
          subst hre
          obtain ⟨ds, rfl, hA⟩ := FD.away (hc f hf (Has fs) ⟨0, FD.at0⟩ fun u v hu ha => (hall u hu).elim (fun h => absurd h List.not_mem_nil) fun h => h v ha)
          rw [opts_some] at hf1
          have gr6 := (gr.ex x6).put nHf (x6 _ _ hf1)
          refine s_retV (F := H6) (v := .ref Lf) (ev_var rfl) (Ex.refl H6) fun H7 x7 => q ds _ _ _ hA (gr6.ex x7) ⟨Lf, _, rfl, SqL.of upd_same, seq_nats ds⟩
end
end Tr
namespace Tr
open PySem PySem.Spec PyProof.Rows L2 Evl RZ
/-! ### what is asked of a web, the plain law -/
structure WebOK (wb : Web) : Prop where
  form : WebForm wb
  nine : wb.1 ≤ 9
  conn : Conn wb
  two : ∃ c : Nat → Bool, ∀ e ∈ wb.2, c e.1 ≠ c e.2
theorem away_two {wb : Web} {f : Nat} {ds : List Nat} (A : Away wb f ds) {c : Nat → Bool} (hc : ∀ e ∈ wb.2, c e.1 ≠ c e.2) : ∀ (d v : Nat), ds[v]? = some d → (c v = c f ↔ d % 2 = 0)
  | d, v, hv => by
    by_cases e : v = f
    · subst e
      have := A.at0
      rw [hv] at this
      cases this
      simp
    · obtain ⟨u, d', ha, hu, hd⟩ := A.back v d hv e
      have ih := away_two A hc d' u hu
      have hne : c u ≠ c v := by
        rcases ha with h | h
        · exact hc _ h
        · exact (hc _ h).symm
      subst hd
      constructor
      · intro h
        have : ¬ d' % 2 = 0 := fun z => hne ((ih.mpr z).trans h.symm)
        omega
      · intro h
        have h2 : ¬ c u = c f := fun z => by have := ih.mp z; omega
        cases h3 : c v <;> cases h4 : c u <;> cases h5 : c f <;> simp_all
  termination_by d => d
theorem away_edge {wb : Web} {f : Nat} {ds : List Nat} (A : Away wb f ds) (two : ∃ c : Nat → Bool, ∀ e ∈ wb.2, c e.1 ≠ c e.2) {e : Nat × Nat} (he : e ∈ wb.2) {a b : Nat} (ha : ds[e.1]? = some a) (hb : ds[e.2]? = some b) : ¬ ((a : Int) - (b : Int)) % 2 = 0 := by
  obtain ⟨c, hc⟩ := two
  have h1 := away_two A hc a e.1 ha
  have h2 := away_two A hc b e.2 hb
  have h3 := hc e he
  intro z
  have h4 : (a % 2 = 0 ↔ b % 2 = 0) := by omega
  rw [← h1, ← h2] at h4
  cases x : c e.1 <;> cases y : c e.2 <;> cases t : c f <;> simp_all
instance {K : PySem.W.Frag} : Dat K (rEdge K) := ⟨fun e => .tuple [.int (e.1 : Int), .int (e.2 : Int)], fun {H v x} r => by
  obtain ⟨p, a, b, rfl, h1, h2, h3⟩ := r
  cases (show a = .int (x.1 : Int) from h2)
  cases (show b = .int (x.2 : Int) from h3)
  exact .tup h1 (.cons (.int _) (.cons (.int _) .nil)), fun _ => rfl, fun _ => by show max 0 (max 0 0) + 1 ≤ 8; decide⟩
theorem made_none {T U : Type} {gp : T → U → Prop} {xs : List T} {ys : List U} (h : Made (fun _ => false) gp xs ys) : ys = [] := by
  unfold Made at h
  have e : xs.filter (fun _ => false) = [] := by
    induction xs with
    | nil => rfl
    | cons a r ih => rw [List.filter_cons, if_neg (by decide)]; exact ih (by rw [List.filter_cons, if_neg (by decide)] at h; exact h)
  rw [e] at h
  cases h
  rfl
section
variable {P : Program} {w : World} {K : PySem.W.Frag} {mg : Str → Option Value} {base : Heap}
/-- a def that says None of a web -/
def spNone (K : PySem.W.Frag) : Sp := fun vs H Q _ => ∃ (F : Hp) (v : V) (wb : Web), vs = [v] ∧ Ex F H ∧ rWeb K F v wb ∧ WebOK wb ∧ ∀ H2, Ex H H2 → Q .non H2
theorem web0 {F G : Hp} {σ : L2.St} {v : V} {wb : Web} {i : Nat} (e : Ex F G) (hv : rWeb K F v wb) (hs : σ[i]? = some (some v)) : EvR rNat (tOp (rIxT K) (tVar i) (tC (.int 0))) σ G wb.1 := evr_pr0 (R := rNat) (S := rTup K (rEdge K)) (x := wb.1) (y := wb.2) (evr_var hs (Mono.mono e hv)) ev_c
theorem web1 {F G : Hp} {σ : L2.St} {v : V} {wb : Web} {i : Nat} (e : Ex F G) (hv : rWeb K F v wb) (hs : σ[i]? = some (some v)) : EvR (rTup K (rEdge K)) (tOp (rIxT K) (tVar i) (tC (.int 1))) σ G wb.2 := evr_pr1 (R := rNat) (S := rTup K (rEdge K)) (x := wb.1) (y := wb.2) (evr_var hs (Mono.mono e hv)) ev_c
theorem evp_reach {F : Hp} {σ : L2.St} {wb : Web} {f : Nat} {ta tb : TE} (ok : WebOK wb) (hf : f < wb.1) (ha : EvR (rWeb K) ta σ F wb) (hb : Ev tb σ F (.int (f : Int))) : EvP (rLst K rNat) (Away wb f) (tCall (spReach K) [] L2.E0 (tCons ta (tCons tb tNil))) σ F := fun H e Q q =>
  ha H e _ fun x v G H2 px g r => by
    subst px
    exact hb H2 (e.trans g.act) _ fun H3 e3 => ⟨G, v, x, f, rfl, g.sub.trans e3, r, ok.form, ok.conn, hf, fun ds y G2 H4 h1 h2 h3 => q ds y G2 H4 h1 ((g.ex e3).trans h2) h3⟩
theorem sc_odd_hedge : FnScope ["web", "told", "some", "hedge"] ["web"] (defScope (top 12)) := ⟨rfl, rfl, rfl, by decide +kernel, rfl, by decide +kernel, by decide +kernel⟩
theorem c_odd_hedge (D : Def K mg "odd_hedge" (top 12) ["web"]) (B : Bi mg) (c_reach_of : Cal P w K mg base 2 "reach_of" (spReach K)) : Cal P w K mg base 3 "odd_hedge" (spNone K) := by
  refine D.cal sc_odd_hedge (fun vs H Q E h => ?_) (fun fa cdv A outer s H vs Q E hr h => ?_)
  · obtain ⟨F, v, wb, rfl, _⟩ := h
    rfl
  · obtain ⟨F, v, wb, rfl, e, hv, ok, q⟩ := h
    refine ⟨_, (pss_cons (ps_set (i := 1) sc_odd_hedge.nd rfl (.inr rfl) (pe_k c_reach_of hr (by decide) (by rfl) (pa_cons (pv 0) (pa_cons pe_int pa_nil))))
      (pss_cons (ps_setLc (i := 2) (own := [("hedge", 3)]) rfl sc_odd_hedge.nd rfl rfl (sw_true rfl rfl rfl (by decide +kernel)) (pi_tup' K (pe_ix (ix_tup' K) (pv 0) pe_int (fun _ _ => rfl))) (blkOk_by (N := ["web", "told", "some", "hedge"]) (sc := defScope (top 12)) (by decide +kernel)) (fun _ _ _ _ _ => (pg_name (i := 3) sc_odd_hedge.nd rfl (.inl rfl))) (fun _ _ _ _ _ => (pts_one (pt_cmpR op_eq (pe_op op_mod (pe_op op_sub (pe_ix (ix_list' K) (pv 1) (pe_ix (ix_tup' K) (pv 3) pe_int (fun _ _ => rfl)) (fun _ _ => rfl)) (pe_ix (ix_list' K) (pv 1) (pe_ix (ix_tup' K) (pv 3) pe_int (fun _ _ => rfl)) (fun _ _ => rfl))) pe_int) pe_int (nomark _)))) (fun _ _ _ _ _ => (pv 3)))
      (pss_one (ps_ret (pe_ifExp (pt_cmpR (op_neD' K hr.units) (pv 2) (pe_lst pa_nil) (nomark _)) pe_never pe_non))))), ?_⟩
    refine q_set (evp_reach ok ok.form.lo (evr_var rfl hv) ev_c) e fun ds vd G H1 hA g1 rd => ?_
    refine q_set (EvN.toR (K := K) (evn_lcT (S := rEdge K) (fun _ => false) (fun _ _ => True) (web1 g1.fz hv rfl) (fun xs h => by subst h; exact Nat.lt_of_le_of_lt ok.form.sm (by decide)) (fun _ => rfl) (fun xs x vx G2 hxs hx e2 rx => ?_) (fun _ _ _ _ _ _ h => by cases h))) g1.sub fun ys vy G2 H2 hy g2 ry => ?_
    · subst hxs
      have hp := ok.form.pr x hx
      obtain ⟨a, ha⟩ : ∃ a, ds[x.1]? = some a := ⟨_, List.getElem?_eq_getElem (by rw [hA.len]; omega)⟩
      obtain ⟨b, hb⟩ : ∃ b, ds[x.2]? = some b := ⟨_, List.getElem?_eq_getElem (by rw [hA.len]; omega)⟩
      have k1 : Ev (tOp (rIxT K) (tVar 3) (tC (.int 0))) _ G2 (.int (x.1 : Int)) := ev_nat (evr_pr0 (R := rNat) (S := rNat) (x := x.1) (y := x.2) (evr_var (σ := (wipe [some v, some vd, none, none] [3]).set 3 (some vx)) rfl rx) ev_c)
      have k2 : Ev (tOp (rIxT K) (tVar 3) (tC (.int 1))) _ G2 (.int (x.2 : Int)) := ev_nat (evr_pr1 (R := rNat) (S := rNat) (x := x.1) (y := x.2) (evr_var (σ := (wipe [some v, some vd, none, none] [3]).set 3 (some vx)) rfl rx) ev_c)
      have k3 := ev_nat (evr_ixL (K := K) (R := rNat) (xs := ds) (x := a) (evr_var (i := 1) (v := vd) rfl (Mono.mono e2 rd)) k1 (atI_nat ha))
      have k4 := ev_nat (evr_ixL (K := K) (R := rNat) (xs := ds) (x := b) (evr_var (i := 1) (v := vd) rfl (Mono.mono e2 rd)) k2 (atI_nat hb))
      refine et_to (et_test (ev_op (ev_op (ev_op k3 k4 rv_I0) ev_c (rv_I (by show (0 : Int) < 2; decide))) ev_c (rv_eq rfl))) (decide_eq_false fun z => away_edge hA ok.two hx ha hb (V.int.inj z))
    · obtain ⟨xs, _, mb⟩ := hy
      have hy0 := made_none mb
      subst hy0
      exact s_retV (F := G2) (ev_if (b := false) (et_test (ev_neNil (R := rEdge K) (PL := fun zs => zs = []) (evr_var rfl ry) fun xs h => by rw [h]; rfl)) (fun h => by cases h) fun _ => ev_c) g2.sub fun H3 x3 => q H3 ((g1.act.trans g2.act).trans x3)
theorem sc_bar_of : FnScope ["web", "told", "hedge", "field"] ["web"] (defScope (top 13)) := ⟨rfl, rfl, rfl, by decide +kernel, rfl, by decide +kernel, by decide +kernel⟩
theorem c_bar_of (D : Def K mg "bar_of" (top 13) ["web"]) (B : Bi mg) (c_reach_of : Cal P w K mg base 2 "reach_of" (spReach K)) (c_odd_hedge : Cal P w K mg base 3 "odd_hedge" (spNone K)) : Cal P w K mg base 4 "bar_of" (spNone K) := by
  refine D.cal sc_bar_of (fun vs H Q E h => ?_) (fun fa cdv A outer s H vs Q E hr h => ?_)
  · obtain ⟨F, v, wb, rfl, _⟩ := h
    rfl
  · obtain ⟨F, v, wb, rfl, e, hv, ok, q⟩ := h
    refine ⟨_, (pss_cons (ps_set (i := 1) sc_bar_of.nd rfl (.inr rfl) (pe_k c_reach_of hr (by decide) (by rfl) (pa_cons (pv 0) (pa_cons pe_int pa_nil))))
      (pss_cons (ps_if (pt_cmpR (op_in_seq' K) pe_non (pv 1) rfl)
       (pss_never)
       (pss_nil))
      (pss_cons (ps_set (i := 2) sc_bar_of.nd rfl (.inl rfl) (pe_k c_odd_hedge hr (by decide) (by rfl) (pa_cons (pv 0) pa_nil)))
      (pss_one (ps_ret (pe_ifExp (pt_cmpR op_notN (pv 2) pe_non (nomark _)) pe_never pe_non)))))), ?_⟩
    refine q_set (evp_reach ok ok.form.lo (evr_var rfl hv) ev_c) e fun ds vd G H1 hA g1 rd => ?_
    refine q_skip (F := G) (et_test (ev_opP (R := rOpt rNat) (P := fun y => y = none) (S := rLst K rNat) (P2 := fun ys => ys = ds) (fun H e Q q => q none .non G H rfl (Grow.refl e) rfl) (evr_var rfl rd) fun x y vx vy G2 e2 px py rx ry => ?_)) g1.sub fun H2 x2 => ?_
    · subst px py
      cases (show vx = .non from rx)
      obtain ⟨p, vs, rfl, hl, r⟩ := ry
      have er := nats_of r
      subst er
      have := rv_isL (K := K) (x := V.non) hl rfl (by rw [List.all_map]; exact List.all_eq_true.mpr fun _ _ => rfl)
      have e0 : inV V.non (y.map nV) = false := by
        unfold inV
        rw [List.any_map]
        exact List.any_eq_false.mpr fun _ _ z => Bool.noConfusion z
      rw [e0] at this
      exact this
    · refine q_setV (v := .non) (fun H e Q q => ⟨v, rfl, F, v, wb, rfl, g1.fz.trans e, hv, ok, fun H2 e2 => q H2 e2⟩) (g1.sub.trans x2) fun H3 x3 => ?_
      exact s_retV (F := H3) (ev_if (b := false) (et_test (ev_op (x := .non) (ev_var rfl) ev_c rv_notN)) (fun h => by cases h) fun _ => ev_c) (Ex.refl H3) fun H4 x4 => q H4 (((g1.act.trans x2).trans x3).trans x4)
theorem sc_need_web : FnScope ["value"] ["value"] (defScope (top 14)) := ⟨rfl, rfl, rfl, by decide +kernel, rfl, by decide +kernel, by decide +kernel⟩
theorem c_need_web (D : Def K mg "need_web" (top 14) ["value"]) (c_has_form : Cal P w K mg base 4 "has_form" (spHasForm K)) (c_bar_of : Cal P w K mg base 4 "bar_of" (spNone K)) : Cal P w K mg base 5 "need_web" (spNone K) := by
  refine D.cal sc_need_web (fun vs H Q E h => ?_) (fun fa cdv A outer s H vs Q E hr h => ?_)
  · obtain ⟨F, v, wb, rfl, _⟩ := h
    rfl
  · obtain ⟨F, v, wb, rfl, e, hv, ok, q⟩ := h
    refine ⟨_, (pss_one (ps_if (PW.pt (pw_or (pt_not (pt_val (pe_k c_has_form hr (by decide) (by rfl) (pa_cons (pv 0) pa_nil)))) (pw_or1 (pt_cmpR op_notN (pe_k c_bar_of hr (by decide) (by rfl) (pa_cons (pv 0) pa_nil)) pe_non (nomark _)))))
       (pss_never)
       (pss_nil))), ?_⟩
    refine s_skip (F := F) (et_or0 (et_nT (et_B (b := true) (fun H e Q q => ⟨v, rfl, v, wb, rfl, Mono.mono e hv, ok.form, fun H2 e2 => q H2 e2⟩))) (et_test (ev_op (x := .non) (fun H e Q q => ⟨v, rfl, F, v, wb, rfl, e, hv, ok, fun H2 e2 => q H2 e2⟩) ev_c rv_notN))) e fun H1 x1 => q H1 x1
/-! ### the fields that have neighbors behind a place -/
def behind (ns : List (List Nat)) (last i : Nat) : Bool := !(ns.getD i []).isEmpty && decide (last < (ns.getD i []).getLastD 0)
def keptM (ns : List (List Nat)) (last : Nat) : List Nat := (List.range (last + 1)).filter (behind ns last)
theorem atI_getLast {l : List Nat} (h : l ≠ []) : atI l (-1) = some (l.getLastD 0) := by
  have e : l = l.dropLast ++ [l.getLast h] := (List.dropLast_concat_getLast h).symm
  have e2 : l.getLastD 0 = l.getLast h := by
    rw [List.getLastD_eq_getLast?, List.getLast?_eq_getLast h]
    rfl
  rw [e2]
  conv => lhs; rw [e]
  exact atI_last _ _
abbrev tBehind (K : PySem.W.Frag) (jn jf jl : Nat) : TT := tAnd (tTest (tOp (rNeD K) (tOp (rIxL K) (tVar jn) (tVar jf)) (tLst tNil))) (tTest (tOp (rI0 fun i j => .bl (decide (j < i))) (tOp (rIxL K) (tOp (rIxL K) (tVar jn) (tVar jf)) (tUn (rU fun i => .int (-i)) (tC (.int 1)))) (tVar jl)))
theorem et_behind {σ : L2.St} {F : Hp} {jn jf jl : Nat} {vn : V} {ns : List (List Nat)} {last i : Nat} (h1 : σ[jn]? = some (some vn)) (h2 : σ[jf]? = some (some (.int (i : Int)))) (h3 : σ[jl]? = some (some (.int (last : Int)))) (rn : rLst K (rLst K rNat) F vn ns) (hi : i < ns.length) : EvT (tBehind K jn jf jl) σ F (behind ns last i) := by
  obtain ⟨nb, hnb⟩ : ∃ nb, ns[i]? = some nb := ⟨_, List.getElem?_eq_getElem hi⟩
  have k1 : EvR (rLst K rNat) (tOp (rIxL K) (tVar jn) (tVar jf)) σ F nb := evr_ixL (evr_var h1 rn) (ev_var h2) (atI_nat hnb)
  unfold behind
  rw [getD_of hnb]
  refine et_and (et_test (ev_neNil (R := rNat) k1 fun xs h => by rw [h])) fun hne => ?_
  have hn : nb ≠ [] := fun z => by rw [z] at hne; cases hne
  have k2 := ev_nat (evr_ixL (K := K) (R := rNat) (i := -1) (x := nb.getLastD 0) k1 (ev_un ev_c ru_neg) (atI_getLast hn))
  refine et_to (et_test (ev_op k2 (ev_var h3) rv_I0)) ?_
  by_cases h : last < nb.getLastD 0
  · rw [decide_eq_true h, decide_eq_true (by omega)]
  · rw [decide_eq_false h, decide_eq_false (by omega)]
def spKept (K : PySem.W.Frag) : Sp := fun vs H Q _ => ∃ (F : Hp) (v : V) (ns : List (List Nat)) (last : Nat), vs = [v, .int (last : Int)] ∧ Ex F H ∧ rLst K (rLst K rNat) F v ns ∧ last < ns.length ∧ ns.length ≤ 60 ∧ ∀ x G H2, Grow F H G H2 → rLst K rNat G x (keptM ns last) → Q x H2
theorem filter_id {T : Type} {f : T → Bool} {xs ys : List T} (h : Made f (fun x y => y = x) xs ys) : ys = xs.filter f := by
  have := made_map (fn := fun x => x) h
  rw [this]
  exact List.map_id' _
theorem sc_kept_at : FnScope ["nears", "last", "field"] ["nears", "last"] (defScope (top 22)) := ⟨rfl, rfl, rfl, by decide +kernel, rfl, by decide +kernel, by decide +kernel⟩
theorem c_kept_at (D : Def K mg "kept_at" (top 22) ["nears", "last"]) (B : Bi mg) : Cal P w K mg base 1 "kept_at" (spKept K) := by
  refine D.cal sc_kept_at (fun vs H Q E h => ?_) (fun fa cdv A outer s H vs Q E hr h => ?_)
  · obtain ⟨F, v, ns, last, rfl, _⟩ := h
    rfl
  · obtain ⟨F, v, ns, last, rfl, e, hv, hl, hz, q⟩ := h
    refine ⟨_, (pss_one (ps_ret (pe_lc (own := [("field", 2)]) rfl sc_kept_at.nd (pi_range1 (by rfl) B.range (pa_cons (pe_op op_add (pv 1) pe_int) pa_nil)) (blkOk_by (N := ["nears", "last", "field"]) (sc := defScope (top 22)) (by decide +kernel)) (fun _ _ _ _ _ => (pg_name (i := 2) sc_kept_at.nd rfl (.inl rfl))) (fun _ _ _ _ _ => (pts_one (PW.pt (pw_and (pt_cmpR (op_neD' K hr.units) (pe_ix (ix_list' K) (pv 0) (pv 2) (fun _ _ => rfl)) (pe_lst pa_nil) (nomark _)) (pw_and1 (pt_cmpR op_gt (pe_ix (ix_list' K) (pe_ix (ix_list' K) (pv 0) (pv 2) (fun _ _ => rfl)) (pe_un un_neg pe_int) (fun _ _ => rfl)) (pv 1) (nomark _))))))) (fun _ _ _ _ _ => (pv 2))))), ?_⟩
    refine s_ret (EvN.toR (K := K) (evn_lcR (S := rNat) (n := last + 1) (behind ns last) (fun x y => y = x) (ev_op (x := .int (last : Int)) (ev_var rfl) ev_c rv_I0) (by omega) (fun _ => rfl) (fun i G hi e2 => et_behind (K := K) rfl rfl rfl (Mono.mono e2 hv) (by omega)) (fun i G hi _ e2 => evr_var rfl rfl))) e fun ys x G H2 hy g r => ?_
    have := filter_id hy
    subst this
    exact q x G H2 g r
def spBreadth (K : PySem.W.Frag) : Sp := fun vs H Q _ => ∃ (F : Hp) (v : V) (wb : Web), vs = [v] ∧ Ex F H ∧ rWeb K F v wb ∧ WebOK wb ∧ ∀ (k : Int) H2, k ≤ 9 → Ex H H2 → Q (.int k) H2
theorem sc_breadth_of : FnScope ["web", "nears", "best", "last", "field"] ["web"] (defScope (top 15)) := ⟨rfl, rfl, rfl, by decide +kernel, rfl, by decide +kernel, by decide +kernel⟩
theorem c_breadth_of (D : Def K mg "breadth_of" (top 15) ["web"]) (B : Bi mg) (c_nears_of : Cal P w K mg base 1 "nears_of" (spNears K)) : Cal P w K mg base 2 "breadth_of" (spBreadth K) := by
  refine D.cal sc_breadth_of (fun vs H Q E h => ?_) (fun fa cdv A outer s H vs Q E hr h => ?_)
  · obtain ⟨F, v, wb, rfl, _⟩ := h
    rfl
  · obtain ⟨F, v, wb, rfl, e, hv, ok, q⟩ := h
    refine ⟨_, (pss_cons (ps_set (i := 1) sc_breadth_of.nd rfl (.inr rfl) (pe_k c_nears_of hr (by decide) (by rfl) (pa_cons (pv 0) pa_nil)))
      (pss_cons (ps_set (i := 2) sc_breadth_of.nd rfl (.inl rfl) pe_int)
      (pss_cons (ps_for PassesOwn.never rfl (pi_range1 (by rfl) B.range (pa_cons (pe_ix (ix_tup' K) (pv 0) pe_int (fun _ _ => rfl)) pa_nil)) (pg_name (i := 3) sc_breadth_of.nd rfl (.inr rfl))
       ((pss_one (ps_set (i := 2) sc_breadth_of.nd rfl (.inl rfl) (pe_callB (call_max2 rfl) (by rfl) B.max (by decide +kernel) (pa_cons (pv 2) (pa_cons (pe_callB (call_len' K) (by rfl) B.len PySem.boot_len (pa_cons (pe_lc (own := [("field", 4)]) rfl sc_breadth_of.nd (pi_range1 (by rfl) B.range (pa_cons (pe_op op_add (pv 3) pe_int) pa_nil)) (blkOk_by (N := ["web", "nears", "best", "last", "field"]) (sc := defScope (top 15)) (by decide +kernel)) (fun _ _ _ _ _ => (pg_name (i := 4) sc_breadth_of.nd rfl (.inl rfl))) (fun _ _ _ _ _ => (pts_one (PW.pt (pw_and (pt_cmpR (op_neD' K hr.units) (pe_ix (ix_list' K) (pv 1) (pv 4) (fun _ _ => rfl)) (pe_lst pa_nil) (nomark _)) (pw_and1 (pt_cmpR op_gt (pe_ix (ix_list' K) (pe_ix (ix_list' K) (pv 1) (pv 4) (fun _ _ => rfl)) (pe_un un_neg pe_int) (fun _ _ => rfl)) (pv 3) (nomark _))))))) (fun _ _ _ _ _ => pe_int)) pa_nil)) pa_nil)))))))
      (pss_one (ps_ret (pv 2)))))), ?_⟩
    have h9 := ok.nine
    refine q_set (R := rLst K (rLst K rNat)) (P := NearsOK wb) (fun H e Q q => ⟨v, rfl, F, v, wb, rfl, e, hv, ok.form, q⟩) e fun ns x G H1 hns g1 rn => ?_
    refine q_setV ev_c g1.sub fun H2 x2 => ?_
    have g2 := g1.ex x2
    refine q_for_rng (m := wb.1) (F := G) (ev_nat (web0 g1.fz hv rfl)) (by omega) g2.sub (fun i σ' H' => ∃ (k : Int) (y3 : Option V), σ' = [some v, some x, some (.int k), y3, none] ∧ k ≤ 9 ∧ Grow F H G H') (fun H3 x3 => ⟨0, none, rfl, by decide, g2.ex x3⟩) (fun i σ' H' hi ⟨k, y3, hσ, hk, g⟩ => ?_) (fun σ' H' ⟨k, y3, hσ, hk, g⟩ => ?_)
    · subst hσ
      have hlen : ∀ ys, Made (behind ns i) (fun _ (y : Int) => y = 1) (List.range (i + 1)) ys → (ys.length : Int) ≤ 9 := fun ys hy => by
        have := made_len hy
        rw [List.length_range] at this
        omega
      have hcomp := EvN.toR (K := K) (evn_lcR (σ := [some v, some x, some (.int k), some (.int (i : Int)), none]) (F := G) (S := rInt) (n := i + 1) (j := 4) (vs := [4]) (t := tBehind K 1 4 3) (te := tC (.int 1)) (tl := tOp (rI0 fun i j => .int (i + j)) (tVar 3) (tC (.int 1))) (behind ns i) (fun _ y => y = 1) (ev_op (x := .int (i : Int)) (ev_var rfl) ev_c rv_I0) (by omega) (fun _ => rfl) (fun j G2 hj e2 => et_behind (K := K) rfl rfl rfl (Mono.mono e2 rn) (by rw [hns.len]; omega)) (fun j G2 hj _ e2 => evr_int ev_c))
      refine g_name (s_raw ?_)
      refine p_cb (p_cons (p_var (v := .int k) rfl ?_))
      refine p_cons (p_cb (p_cons ?_))
      refine hcomp H' g.sub _ fun ys y G2 H5 hy g5 ry => ?_
      obtain ⟨p, vs, rfl, hp, r⟩ := ry
      refine ⟨p, vs, rfl, .inl (ex_l g5.sub hp), k, _, rfl, ?_⟩
      have h5 := hlen ys hy
      rw [← seq_len r] at h5
      refine ⟨_, _, rfl, ?_, g.ex g5.act⟩
      split <;> omega
    · subst hσ
      exact s_retV (F := H') (ev_var rfl) (Ex.refl H') fun H4 x4 => q k H4 hk (g.act.trans x4)
theorem sc_need_narrow : FnScope ["web"] ["web"] (defScope (top 21)) := ⟨rfl, rfl, rfl, by decide +kernel, rfl, by decide +kernel, by decide +kernel⟩
theorem c_need_narrow (D : Def K mg "need_narrow" (top 21) ["web"]) (C : Cs mg) (c_need_web : Cal P w K mg base 5 "need_web" (spNone K)) (c_breadth_of : Cal P w K mg base 2 "breadth_of" (spBreadth K)) : Cal P w K mg base 6 "need_narrow" (spNone K) := by
  refine D.cal sc_need_narrow (fun vs H Q E h => ?_) (fun fa cdv A outer s H vs Q E hr h => ?_)
  · obtain ⟨F, v, wb, rfl, _⟩ := h
    rfl
  · obtain ⟨F, v, wb, rfl, e, hv, ok, q⟩ := h
    refine ⟨_, (pss_cons (ps_expr (pe_k c_need_web hr (by decide) (by rfl) (pa_cons (pv 0) pa_nil)))
      (pss_one (ps_if (pt_cmpR op_gt (pe_k c_breadth_of hr (by decide) (by rfl) (pa_cons (pv 0) pa_nil)) (C8.pe_gc (v := .int 10) (by rfl) C.MOST_BREADTH) (nomark _))
       (pss_never)
       (pss_nil)))), ?_⟩
    refine q_drop (v := .non) (F := F) (fun H e Q q => ⟨v, rfl, F, v, wb, rfl, e, hv, ok, fun H1 x1 => q H1 x1⟩) e fun H1 x1 => ?_
    refine s_skip (F := F) (fun H e Q q => ⟨v, rfl, F, v, wb, rfl, e, hv, ok, fun k H2 hk x2 => ⟨k, 10, rfl, rfl, _, rfl, ?_⟩⟩) (e.trans x1) fun H2 x2 => q H2 (x1.trans x2)
    rw [decide_eq_false (by omega)]
    exact q H2 x2
end
end Tr
namespace Tr
open PySem PySem.Spec PyProof.Rows L2 Evl RZ
section
variable {P : Program} {w : World} {K : PySem.W.Frag} {mg : Str → Option Value} {base : Heap}
abbrev rTold (K : PySem.W.Frag) : Rp (Nat × Int) := rPr K rNat rInt
def spHighest (K : PySem.W.Frag) : Sp := fun vs H Q _ => ∃ (F : Hp) (v tv : V) (wb : Web) (f : Nat) (h : Int), vs = [v, tv] ∧ Ex F H ∧ rWeb K F v wb ∧ WebOK wb ∧ f < wb.1 ∧ (rLst K (rTold K) F tv [(f, h)] ∨ rTup K (rTold K) F tv [(f, h)]) ∧ ∀ ds x G H2, Away wb f ds → Grow F H G H2 → rTup K rInt G x (ds.map fun (d : Nat) => h + (d : Int)) → Q x H2
/-- the heights of the first i fields told, the rest None -/
def Half (h : Int) (ds : List Nat) (i : Nat) (ws : List V) : Prop := ws.length = ds.length ∧ (∀ j d, j < i → ds[j]? = some d → ws[j]? = some (.int (h + (d : Int)))) ∧ ∀ j, i ≤ j → j < ds.length → ws[j]? = some .non
theorem Half.put {h : Int} {ds : List Nat} {i d : Nat} {ws : List V} (a : Half h ds i ws) (hd : ds[i]? = some d) : Half h ds (i + 1) (ws.set i (.int (h + (d : Int)))) := by
  have hi : i < ds.length := (List.getElem?_eq_some_iff.mp hd).1
  refine ⟨by rw [List.length_set]; exact a.1, fun j d2 hj hd2 => ?_, fun j hj hl => ?_⟩
  · by_cases e : i = j
    · subst e
      rw [hd] at hd2
      cases hd2
      rw [List.getElem?_set_self (by rw [a.1]; exact hi)]
    · rw [List.getElem?_set_ne e]
      exact a.2.1 j d2 (by omega) hd2
  · rw [List.getElem?_set_ne (by omega)]
    exact a.2.2 j (by omega) hl
theorem Half.all {h : Int} {ds : List Nat} {ws : List V} (a : Half h ds ds.length ws) : ws = (ds.map fun (d : Nat) => h + (d : Int)).map V.int := by
  refine List.ext_getElem? fun j => ?_
  rw [List.map_map, List.getElem?_map]
  by_cases hj : j < ds.length
  · rw [a.2.1 j ds[j] hj (List.getElem?_eq_getElem hj), List.getElem?_eq_getElem hj]
    rfl
  · rw [List.getElem?_eq_none (by rw [a.1]; omega), List.getElem?_eq_none (by omega)]
    rfl
theorem Half.start (h : Int) (ds : List Nat) : Half h ds 0 (List.replicate ds.length .non) :=
  ⟨List.length_replicate .., fun j d hj => absurd hj (Nat.not_lt_zero j), fun j _ hj => by rw [List.getElem?_replicate, if_pos hj]⟩
theorem sc_highest_of : FnScope ["web", "told", "found", "field", "height", "at", "many"] ["web", "told"] (defScope (top 17)) := ⟨rfl, rfl, rfl, by decide +kernel, rfl, by decide +kernel, by decide +kernel⟩
theorem c_highest_of (D : Def K mg "highest_of" (top 17) ["web", "told"]) (B : Bi mg) (c_reach_of : Cal P w K mg base 2 "reach_of" (spReach K)) : Cal P w K mg base 3 "highest_of" (spHighest K) := by
  refine D.cal sc_highest_of (fun vs H Q E h => ?_) (fun fa cdv A outer s H vs Q E hr h => ?_)
  · obtain ⟨F, v, tv, wb, f, h, rfl, _⟩ := h
    rfl
  · obtain ⟨F, v, tv, wb, f, h, rfl, e, hv, ok, hf, ht, q⟩ := h
    refine ⟨_, (pss_cons (ps_set (i := 2) sc_highest_of.nd rfl (.inl rfl) (pe_op op_rep (pe_lst (pa_cons pe_non pa_nil)) (pe_ix (ix_tup' K) (pv 0) pe_int (fun _ _ => rfl))))
      (pss_cons (ps_for PassesOwn.never rfl (pi_or (pi_list' K (pv 1)) (pi_tup' K (pv 1))) (pg_tup' (n := 2) K rfl (pgs_cons (pg_name (i := 3) sc_highest_of.nd rfl (.inl rfl)) (pgs_cons (pg_name (i := 4) sc_highest_of.nd rfl (.inl rfl)) pgs_nil)))
       ((pss_one (ps_for PassesOwn.never rfl (pi_enum' K (by rfl) B.enumerate (pa_cons (pe_k c_reach_of hr (by decide) (by rfl) (pa_cons (pv 0) (pa_cons (pv 3) pa_nil))) pa_nil)) (pg_tup' (n := 2) K rfl (pgs_cons (pg_name (i := 5) sc_highest_of.nd rfl (.inl rfl)) (pgs_cons (pg_name (i := 6) sc_highest_of.nd rfl (.inl rfl)) pgs_nil)))
        ((pss_one (ps_asg (pe_ifExp (pt_cmpR op_isN (pe_ix (ix_list' K) (pv 2) (pv 5) (fun _ _ => rfl)) pe_non (nomark _)) (pe_op op_add (pv 4) (pv 6)) (pe_callB (call_min2 rfl) (by rfl) B.min (by decide +kernel) (pa_cons (pe_ix (ix_list' K) (pv 2) (pv 5) (fun _ _ => rfl)) (pa_cons (pe_op op_add (pv 4) (pv 6)) pa_nil)))) (pg_sub (pv 2) (pv 5) set_list))))))))
      (pss_one (ps_ret (pe_callTy (call_tuple' K) (by rfl) B.tuple_ (by decide +kernel) (pa_cons (pv 2) pa_nil)))))), ?_⟩
    have h9 := ok.nine
    refine q_setN (evn_rep (ev_nat (web0 (Ex.refl F) hv rfl)) (by omega)) e fun ys Lf vs G1 H1 hy g1 n1 n2 h1 r1 => ?_
    subst hy
    have er := opts_of r1
    rw [List.map_replicate] at er
    -- what one turn gives
    have step : ∀ (G : Hp) (vf vh : V) (y3 y4 y5 y6 : Option V) (H2 : Hp) (N : L2.St → Hp → Prop) (D : Ends), D.nx = N → Grow F H G H2 → G Lf = none → H2 Lf = some (.lst (List.replicate wb.1 .non)) → vf = .int (f : Int) → vh = .int h →
        (∀ σ' H' ds, Away wb f ds → (∃ G2 y5 y6, σ' = [some v, some tv, some (.ref Lf), some vf, some vh, y5, y6] ∧ Ex G G2 ∧ Grow F H G2 H' ∧ G2 Lf = none ∧ H' Lf = some (.lst ((ds.map fun (d : Nat) => h + (d : Int)).map V.int))) → N σ' H') →
        tFor (iEnum K (tCons (tCall (spReach K) [] L2.E0 (tCons (tVar 0) (tCons (tVar 3) tNil))) tNil)) (gPair K 5 6) (tAsg (tIf (tTest (tOp (fun x y H Q => y = V.non ∧ Q (.bl (decide (x = .non))) H) (tOp (rIxL K) (tVar 2) (tVar 5)) (tC .non))) (tOp (rI0 fun i j => .int (i + j)) (tVar 4) (tVar 6)) (tCB (fun xs H Q => ∃ i j, xs = [.int i, .int j] ∧ Q (.int (if j < i then j else i)) H) (tCons (tOp (rIxL K) (tVar 2) (tVar 5)) (tCons (tOp (rI0 fun i j => .int (i + j)) (tVar 4) (tVar 6)) tNil)))) (gSub (tVar 2) (tVar 5) rSetL)) D [some v, some tv, some (.ref Lf), some vf, some vh, y5, y6] H2 := by
      rintro G vf vh y3 y4 y5 y6 H2 N ⟨n, r, b, c⟩ rfl g gl hl rfl rfl k
      refine s_for_enu (PX := Away wb f) (F := G) (evp_reach ok hf (evr_var rfl (Mono.mono g.fz hv)) (ev_var rfl)) g.sub (fun ds G2 i σ' H' => ∃ y5 y6 ws, σ' = [some v, some tv, some (.ref Lf), some (.int (f : Int)), some (.int h), y5, y6] ∧ Grow F H G2 H' ∧ G2 Lf = none ∧ H' Lf = some (.lst ws) ∧ Half h ds i ws) (fun ds G2 i σ' H' ⟨_, _, _, _, g, _⟩ => g.sub)
        (fun ds G2 H3 hA g3 => ⟨y5, y6, _, rfl, g.trans g3, g3.gone gl hl, g3.act _ _ hl, by have := Half.start h ds; rw [hA.len] at this; exact this⟩) (fun ds G2 i d vd σ' H' H3 hA eg hd rd ⟨y5, y6, ws, hσ, g2, gl2, hl2, hh⟩ x3 => ?_) (fun ds G2 σ' H' hA eg ⟨y5, y6, ws, hσ, g2, gl2, hl2, hh⟩ => ?_)
      · subst hσ
        cases (show vd = .int (d : Int) from rd)
        have hi : i < ds.length := (List.getElem?_eq_some_iff.mp hd).1
        have hl3 := x3 _ _ hl2
        refine s_putV (j := i) hl3 (ev_if (b := true) (et_test (ev_op (ev_cellI (i := i) hl3 (ev_var rfl) (ev_var rfl) (hh.2.2 i (Nat.le_refl i) hi)) ev_c rv_isN)) (fun _ => ev_op (x := .int h) (y := .int (d : Int)) (ev_var rfl) (ev_var rfl) rv_I0) fun h => by cases h) (ev_var rfl) (ev_var rfl) (by rw [hh.1]; exact hi) fun H4 x4 => ⟨_, _, _, rfl, ((g2.ex x3).ex x4).wr gl2 n2, gl2, upd_same, hh.put hd⟩
      · subst hσ
        rw [hh.all] at hl2
        exact k _ _ ds hA ⟨G2, y5, y6, rfl, eg, g2, gl2, hl2⟩
    -- the end: tuple(found)
    have fin : ∀ (σ' : L2.St) (H' : Hp) (ds : List Nat), Away wb f ds → (∃ G2 y3 y4 y5 y6, σ' = [some v, some tv, some (.ref Lf), y3, y4, y5, y6] ∧ Grow F H G2 H' ∧ G2 Lf = none ∧ H' Lf = some (.lst ((ds.map fun (d : Nat) => h + (d : Int)).map V.int))) → ∀ n b c, tRet (tCB (rTupS K) (tCons (tVar 2) tNil)) ⟨n, Q, b, c⟩ σ' H' := by
      rintro σ' H' ds hA ⟨G2, y3, y4, y5, y6, rfl, g2, gl2, hl2⟩ n b c
      have g3 := g2.put n2 hl2
      refine s_ret (evp_tupL (K := K) (R := rInt) (PL := fun ys => ys = ds.map fun (d : Nat) => h + (d : Int)) (evr_var rfl (rint_list (SqL.of upd_same)))) g3.sub fun ys x G3 H3 hy g4 r => ?_
      subst hy
      exact q ds x G3 H3 hA (g3.trans g4) r
    rw [er] at h1
    rcases ht with ht | ht
    · refine q_for_inl (q_for_lst (F := G1) (evr_var rfl (Mono.mono g1.fz ht)) g1.sub (fun G i σ' H' => ∃ G2 y3 y4 y5 y6, σ' = [some v, some tv, some (.ref Lf), y3, y4, y5, y6] ∧ Ex G G2 ∧ Grow F H G2 H' ∧ G2 Lf = none ∧ ((i = 0 ∧ H' Lf = some (.lst (List.replicate wb.1 .non))) ∨ (i = 1 ∧ ∃ ds, Away wb f ds ∧ H' Lf = some (.lst ((ds.map fun (d : Nat) => h + (d : Int)).map V.int))))) (fun G i σ' H' ⟨_, _, _, _, _, _, g, g2, _⟩ => g.trans g2.sub)
        (fun G H2 g2 => ⟨G, none, none, none, none, rfl, Ex.refl G, g1.trans g2, g2.gone n1 h1, .inl ⟨rfl, g2.act _ _ h1⟩⟩) (fun G i x vx σ' H' eg hx rx ⟨G2, y3, y4, y5, y6, hσ, xg, g2, gl2, hc⟩ => ?_) (fun G σ' H' eg ⟨G2, y3, y4, y5, y6, hσ, xg, g2, gl2, hc⟩ => ?_))
      · subst hσ
        obtain ⟨rfl, rfl⟩ : i = 0 ∧ x = (f, h) := by
          cases i with
          | zero => exact ⟨rfl, (Option.some.inj hx).symm⟩
          | succ i => simp at hx
        rcases hc with ⟨_, hl⟩ | ⟨h1, _⟩
        · obtain ⟨pp, va, vb, rfl, hp, ra, rb⟩ := rx
          exact g_pair (ex_t (xg.trans g2.sub) hp) (step G2 va vb y3 y4 y5 y6 H' _ _ rfl g2 gl2 hl ra rb fun σ' H3 ds hA ⟨G3, y5, y6, hσ, e3, g3, gl3, hl3⟩ => ⟨G3, _, _, y5, y6, hσ, xg.trans e3, g3, gl3, .inr ⟨rfl, ds, hA, hl3⟩⟩)
        · cases h1
      · rcases hc with ⟨h0, _⟩ | ⟨_, ds, hA, hl⟩
        · cases h0
        · exact fin _ _ ds hA ⟨G2, y3, y4, y5, y6, hσ, g2, gl2, hl⟩ _ _ _
    · refine q_for_inr (q_for_tpl (F := G1) (evr_var rfl (Mono.mono g1.fz ht)) g1.sub (fun G i σ' H' => ∃ G2 y3 y4 y5 y6, σ' = [some v, some tv, some (.ref Lf), y3, y4, y5, y6] ∧ Ex G G2 ∧ Grow F H G2 H' ∧ G2 Lf = none ∧ ((i = 0 ∧ H' Lf = some (.lst (List.replicate wb.1 .non))) ∨ (i = 1 ∧ ∃ ds, Away wb f ds ∧ H' Lf = some (.lst ((ds.map fun (d : Nat) => h + (d : Int)).map V.int))))) (fun G i σ' H' ⟨_, _, _, _, _, _, g, g2, _⟩ => g.trans g2.sub)
        (fun G H2 g2 => ⟨G, none, none, none, none, rfl, Ex.refl G, g1.trans g2, g2.gone n1 h1, .inl ⟨rfl, g2.act _ _ h1⟩⟩) (fun G i x vx σ' H' eg hx rx ⟨G2, y3, y4, y5, y6, hσ, xg, g2, gl2, hc⟩ => ?_) (fun G σ' H' eg ⟨G2, y3, y4, y5, y6, hσ, xg, g2, gl2, hc⟩ => ?_))
      · subst hσ
        obtain ⟨rfl, rfl⟩ : i = 0 ∧ x = (f, h) := by
          cases i with
          | zero => exact ⟨rfl, (Option.some.inj hx).symm⟩
          | succ i => simp at hx
        rcases hc with ⟨_, hl⟩ | ⟨h1, _⟩
        · obtain ⟨pp, va, vb, rfl, hp, ra, rb⟩ := rx
          exact g_pair (ex_t (xg.trans g2.sub) hp) (step G2 va vb y3 y4 y5 y6 H' _ _ rfl g2 gl2 hl ra rb fun σ' H3 ds hA ⟨G3, y5, y6, hσ, e3, g3, gl3, hl3⟩ => ⟨G3, _, _, y5, y6, hσ, xg.trans e3, g3, gl3, .inr ⟨rfl, ds, hA, hl3⟩⟩)
        · cases h1
      · rcases hc with ⟨h0, _⟩ | ⟨_, ds, hA, hl⟩
        · cases h0
        · exact fin _ _ ds hA ⟨G2, y3, y4, y5, y6, hσ, g2, gl2, hl⟩ _ _ _
/-! ### lowest_of, bounds_from -/
def spLowest (K : PySem.W.Frag) : Sp := fun vs H Q _ => ∃ (F : Hp) (v tv : V) (wb : Web) (f : Nat) (h : Int), vs = [v, tv] ∧ Ex F H ∧ rWeb K F v wb ∧ WebOK wb ∧ f < wb.1 ∧ rTup K (rTold K) F tv [(f, h)] ∧ ∀ ds x G H2, Away wb f ds → Grow F H G H2 → rTup K rInt G x (ds.map fun (d : Nat) => h - (d : Int)) → Q x H2
theorem sc_lowest_of : FnScope ["web", "told", "field", "height"] ["web", "told"] (defScope (top 18)) := ⟨rfl, rfl, rfl, by decide +kernel, rfl, by decide +kernel, by decide +kernel⟩
theorem c_lowest_of (D : Def K mg "lowest_of" (top 18) ["web", "told"]) (B : Bi mg) (c_highest_of : Cal P w K mg base 3 "highest_of" (spHighest K)) : Cal P w K mg base 4 "lowest_of" (spLowest K) := by
  refine D.cal sc_lowest_of (fun vs H Q E h => ?_) (fun fa cdv A outer s H vs Q E hr h => ?_)
  · obtain ⟨F, v, tv, wb, f, h, rfl, _⟩ := h
    rfl
  · obtain ⟨F, v, tv, wb, f, h, rfl, e, hv, ok, hf, ht, q⟩ := h
    refine ⟨_, (pss_one (ps_ret (pe_callTy (call_tuple' K) (by rfl) B.tuple_ (by decide +kernel) (pa_cons (pe_lc (own := [("height", 3)]) rfl sc_lowest_of.nd (pi_tup' K (pe_k c_highest_of hr (by decide) (by rfl) (pa_cons (pv 0) (pa_cons (pe_lc (own := [("field", 2), ("height", 3)]) rfl sc_lowest_of.nd (pi_tup' K (pv 1)) (blkOk_by (N := ["web", "told", "field", "height"]) (sc := defScope (top 18)) (by decide +kernel)) (fun _ _ _ _ _ => (pg_tup' (n := 2) K rfl (pgs_cons (pg_name (i := 2) sc_lowest_of.nd rfl (.inl rfl)) (pgs_cons (pg_name (i := 3) sc_lowest_of.nd rfl (.inl rfl)) pgs_nil)))) (fun _ _ _ _ _ => pts_nil) (fun _ _ _ _ _ => (pe_tup (pa_cons (pv 2) (pa_cons (pe_un un_neg (pv 3)) pa_nil))))) pa_nil)))) (blkOk_by (N := ["web", "told", "field", "height"]) (sc := defScope (top 18)) (by decide +kernel)) (fun _ _ _ _ _ => (pg_name (i := 3) sc_lowest_of.nd rfl (.inl rfl))) (fun _ _ _ _ _ => pts_nil) (fun _ _ _ _ _ => (pe_un un_neg (pv 3)))) pa_nil)))), ?_⟩
    have h9 := ok.nine
    -- [(field, -height) for field, height in told]
    have k1 := evn_lcTP (K := K) (R1 := rNat) (R2 := rInt) (S := rTold K) (σ := [some v, some tv, none, none]) (F := F) (PL := fun ys => ys = [(f, h)]) (j := 2) (l := 3) (vs := [2, 3]) (t := tYes) (te := tTup (tCons (tVar 2) (tCons (tUn (rU fun i => .int (-i)) (tVar 3)) tNil))) (fun _ => true) (fun x y => y = (x.1, -x.2)) (evr_var (i := 1) rfl ht) (fun xs h => by subst h; show 1 < 100000; decide) (fun _ _ => rfl) (fun _ _ _ _ _ _ _ _ _ _ => fun H e Q q => q H (Ex.refl H))
      (fun xs x a b G hxs hx _ eg ra rb => evr_pair (evr_var rfl ra) (evr_int (ev_un (by cases (show b = .int x.2 from rb); exact ev_var rfl) ru_neg)))
    have k2 : EvP (rTup K rInt) (fun ys => ∃ ds, Away wb f ds ∧ ys = ds.map fun (d : Nat) => -h + (d : Int)) (tCall (spHighest K) [] L2.E0 (tCons (tVar 0) (tCons (tLc (iTup K (tVar 1)) (gPair K 2 3) tYes (tTup (tCons (tVar 2) (tCons (tUn (rU fun i => .int (-i)) (tVar 3)) tNil))) [2, 3]) tNil))) [some v, some tv, none, none] F := fun H e Q q => by
      refine p_call (p_cons (p_var rfl (p_cons ?_)))
      refine (EvN.toR (K := K) k1) H e _ fun ys y G H2 hy g ry => ?_
      obtain ⟨xs, rfl, mb⟩ := hy
      have := made_map (fn := fun x : Nat × Int => (x.1, -x.2)) mb
      subst this
      exact ⟨G, v, y, wb, f, -h, rfl, g.sub, Mono.mono g.fz hv, ok, hf, .inl ry, fun ds x G2 H3 hA g2 r => q _ x G2 H3 ⟨ds, hA, rfl⟩ (g.trans g2) r⟩
    refine s_ret (evp_tupL (K := K) (EvN.toR (K := K) (evn_lcT (S := rInt) (j := 3) (fun _ => true) (fun (x : Int) y => y = -x) k2 (fun xs ⟨ds, hA, hx⟩ => by rw [hx, List.length_map, hA.len]; omega) (fun _ => rfl) (fun _ _ _ _ _ _ _ _ => fun H e Q q => q H (Ex.refl H)) (fun xs x a G _ _ _ eg ra => evr_int (ev_un (by cases (show a = .int x from ra); exact ev_var rfl) ru_neg))))) e fun ys x G H2 hy g r => ?_
    obtain ⟨xs, ⟨ds, hA, rfl⟩, mb⟩ := hy
    have hm := made_map (fn := fun x : Int => -x) mb
    rw [List.filter_eq_self.mpr fun _ _ => rfl, List.map_map] at hm
    have e2 : ys = ds.map fun (d : Nat) => h - (d : Int) := by
      rw [hm]
      refine List.map_congr_left fun d _ => ?_
      show -(-h + (d : Int)) = h - (d : Int)
      omega
    subst e2
    exact q ds x G H2 hA g r
def spBounds (K : PySem.W.Frag) : Sp := fun vs H Q _ => ∃ (F : Hp) (v : V) (wb : Web) (f : Nat), vs = [v, .int (f : Int)] ∧ Ex F H ∧ rWeb K F v wb ∧ WebOK wb ∧ f < wb.1 ∧ ∀ ds1 ds2 x G H2, Away wb f ds1 → Away wb f ds2 → Grow F H G H2 → rPr K (rTup K rInt) (rTup K rInt) G x (ds1.map (fun (d : Nat) => 0 - (d : Int)), ds2.map (fun (d : Nat) => 0 + (d : Int))) → Q x H2
theorem sc_bounds_from : FnScope ["web", "field", "told"] ["web", "field"] (defScope (top 29)) := ⟨rfl, rfl, rfl, by decide +kernel, rfl, by decide +kernel, by decide +kernel⟩
theorem c_bounds_from (D : Def K mg "bounds_from" (top 29) ["web", "field"]) (c_lowest_of : Cal P w K mg base 4 "lowest_of" (spLowest K)) (c_highest_of : Cal P w K mg base 3 "highest_of" (spHighest K)) : Cal P w K mg base 5 "bounds_from" (spBounds K) := by
  refine D.cal sc_bounds_from (fun vs H Q E h => ?_) (fun fa cdv A outer s H vs Q E hr h => ?_)
  · obtain ⟨F, v, wb, f, rfl, _⟩ := h
    rfl
  · obtain ⟨F, v, wb, f, rfl, e, hv, ok, hf, q⟩ := h
    refine ⟨_, (pss_cons (ps_set (i := 2) sc_bounds_from.nd rfl (.inl rfl) (pe_tup (pa_cons (pe_tup (pa_cons (pv 1) (pa_cons pe_int pa_nil))) pa_nil)))
      (pss_one (ps_ret (pe_tup (pa_cons (pe_k c_lowest_of hr (by decide) (by rfl) (pa_cons (pv 0) (pa_cons (pv 2) pa_nil))) (pa_cons (pe_k c_highest_of hr (by decide) (by rfl) (pa_cons (pv 0) (pa_cons (pv 2) pa_nil))) pa_nil)))))), ?_⟩
    refine q_set (R := rTup K (rTold K)) (P := fun ys => ys = [(f, 0)]) (evr_tup1 (evr_pair (evr_nat (ev_var rfl)) (evr_int ev_c))) e fun ys vt G H1 hy g1 rt => ?_
    subst hy
    have hv1 := Mono.mono g1.fz hv
    refine s_ret (evp_pair (K := K) (R := rTup K rInt) (S := rTup K rInt) (P := fun ys => ∃ ds, Away wb f ds ∧ ys = ds.map fun (d : Nat) => 0 - (d : Int)) (P2 := fun ys => ∃ ds, Away wb f ds ∧ ys = ds.map fun (d : Nat) => 0 + (d : Int))
      (fun H e Q q => p_call (p_cons (p_var rfl (p_cons (p_var rfl ⟨G, v, vt, wb, f, 0, rfl, e, hv1, ok, hf, rt, fun ds x G2 H2 hA g r => q _ x G2 H2 ⟨ds, hA, rfl⟩ g r⟩)))))
      (fun H e Q q => p_call (p_cons (p_var rfl (p_cons (p_var rfl ⟨G, v, vt, wb, f, 0, rfl, e, hv1, ok, hf, .inr rt, fun ds x G2 H2 hA g r => q _ x G2 H2 ⟨ds, hA, rfl⟩ g r⟩)))))) g1.sub fun ys x G2 H2 hy g r => ?_
    obtain ⟨ya, yb⟩ := ys
    obtain ⟨⟨d1, hA1, rfl⟩, d2, hA2, rfl⟩ := hy
    exact q d1 d2 x G2 H2 hA1 hA2 (g1.trans g) r
end
end Tr
namespace Tr
open PySem PySem.Spec PyProof.Rows L2 Evl RZ
section
variable {P : Program} {w : World} {K : PySem.W.Frag} {mg : Str → Option Value} {base : Heap}
/-! ### the greatest common divisor, a fraction lowered -/
def spGcd : Sp := fun vs H Q _ => ∃ (a b : Nat), vs = [.int (a : Int), .int (b : Int)] ∧ ∀ H2, Ex H H2 → Q (.int ((Nat.gcd a b : Nat) : Int)) H2
/-- the loop of both -/
theorem gcd_loop {g a b : Nat} {H : Hp} {D : Ends} {u2 : TS} (hg : Nat.gcd a b = g) (k : ∀ H2, Ex H H2 → u2 D [some (nV g), some (nV 0)] H2) :
    tSeq (tWhile (tTest (tOp rNe (tVar 1) (tC (.int 0)))) (tPar 0 1 (tCons (tVar 1) (tCons (tOp (rI (fun _ j => 0 < j) fun i j => .int (i % j)) (tVar 0) (tVar 1)) tNil)))) u2 D [some (nV a), some (nV b)] H := by
  refine q_while (fun m σ' H' => ∃ a b : Nat, σ' = [some (nV a), some (nV b)] ∧ Nat.gcd a b = g ∧ m = b ∧ Ex H H') b ⟨a, b, rfl, hg, rfl, Ex.refl H⟩ fun m σ' H' ⟨a, b, hσ, hg, hm, e⟩ => ?_
  subst hσ
  subst hm
  refine ⟨!decide (nV m = V.int 0), et_test (ev_op (ev_var rfl) ev_c (rv_ne rfl)), fun hk H1 e1 => ?_, fun hk H1 e1 => ?_⟩
  · have hb : 0 < m := by
      by_cases h : m = 0
      · subst h
        exact absurd hk (by decide)
      · omega
    refine ⟨fun σ2 H2 => σ2 = [some (nV m), some (nV (a % m))] ∧ Ex H H2, fun σ2 H2 ⟨h1, h2⟩ => ⟨a % m, Nat.mod_lt _ hb, m, a % m, h1, by rw [← hg, Nat.gcd_comm m (a % m), ← Nat.gcd_rec, Nat.gcd_comm], rfl, h2⟩, ?_⟩
    refine s_par (p_cons (p_var rfl (p_cons ?_)))
    refine (ev_op (x := nV a) (y := nV m) (z := nV (a % m)) (H := H1) (ev_var rfl) (ev_var rfl) (rv_I (C := fun _ j => 0 < j) (g := fun i j => .int (i % j)) (i := (a : Int)) (j := (m : Int)) (by omega))) H1 (Ex.refl H1) _ fun H2 e2 => p_nil ⟨_, _, rfl, rfl, e.trans (e1.trans e2)⟩
  · have hb : m = 0 := by
      by_cases h : m = 0
      · exact h
      · exfalso
        have : nV m ≠ V.int 0 := fun z => by
          have z2 : ((m : Nat) : Int) = 0 := V.int.inj z
          omega
        rw [decide_eq_false this] at hk
        cases hk
    subst hb
    rw [Nat.gcd_zero_right] at hg
    subst hg
    exact k H1 (e.trans e1)
theorem sc_common : FnScope ["one", "other"] ["one", "other"] (defScope (top 27)) := ⟨rfl, rfl, rfl, by decide +kernel, rfl, by decide +kernel, by decide +kernel⟩
theorem c_common (D : Def K mg "common" (top 27) ["one", "other"]) (B : Bi mg) : Cal P w K mg base 1 "common" spGcd := by
  refine D.cal sc_common (fun vs H Q E h => ?_) (fun fa cdv A outer s H vs Q E hr h => ?_)
  · obtain ⟨a, b, rfl, _⟩ := h
    rfl
  · obtain ⟨a, b, rfl, q⟩ := h
    refine ⟨_, (pss_cons (ps_while PassesOwn.never (pt_cmpR op_ne (pv 1) pe_int (nomark _))
       ((pss_one (ps_par (i := 0) (j := 1) rfl sc_common.nd rfl rfl (by decide) rfl rfl (pa_cons (pv 1) (pa_cons (pe_op op_mod (pv 0) (pv 1)) pa_nil)) (by rfl)))))
      (pss_one (ps_ret (pe_callB call_abs (by rfl) B.abs (by decide +kernel) (pa_cons (pv 0) pa_nil))))), ?_⟩
    refine gcd_loop rfl fun H2 e => s_retV (v := nV (Nat.gcd a b)) (F := H2) ?_ (Ex.refl H2) fun H3 e3 => q H3 (e.trans e3)
    exact fun H1 e1 Q q => p_cb (p_cons (p_var rfl (p_nil ⟨_, rfl, by rw [if_neg (by omega)]; exact q H1 (Ex.refl H1)⟩)))
theorem sc_law_common : FnScope ["_law_one", "_law_other"] ["_law_one", "_law_other"] (defScope (top 45)) := ⟨rfl, rfl, rfl, by decide +kernel, rfl, by decide +kernel, by decide +kernel⟩
theorem c_law_common (D : Def K mg "_law_common" (top 45) ["_law_one", "_law_other"]) (B : Bi mg) : Cal P w K mg base 1 "_law_common" spGcd := by
  refine D.cal sc_law_common (fun vs H Q E h => ?_) (fun fa cdv A outer s H vs Q E hr h => ?_)
  · obtain ⟨a, b, rfl, _⟩ := h
    rfl
  · obtain ⟨a, b, rfl, q⟩ := h
    refine ⟨_, (pss_cons (ps_par (i := 0) (j := 1) rfl sc_law_common.nd rfl rfl (by decide) rfl rfl (pa_cons (pe_callB call_abs (by rfl) B.abs (by decide +kernel) (pa_cons (pv 0) pa_nil)) (pa_cons (pe_callB call_abs (by rfl) B.abs (by decide +kernel) (pa_cons (pv 1) pa_nil)) pa_nil)) (by rfl))
      (pss_cons (ps_while PassesOwn.never (pt_cmpR op_ne (pv 1) pe_int (nomark _))
       ((pss_one (ps_par (i := 0) (j := 1) rfl sc_law_common.nd rfl rfl (by decide) rfl rfl (pa_cons (pv 1) (pa_cons (pe_op op_mod (pv 0) (pv 1)) pa_nil)) (by rfl)))))
      (pss_one (ps_ret (pv 0))))), ?_⟩
    refine q_par (p_cons (p_cb (p_cons (p_var rfl (p_nil ⟨_, rfl, ?_⟩)))))
    rw [if_neg (by omega)]
    refine p_cons (p_cb (p_cons (p_var rfl (p_nil ⟨_, rfl, ?_⟩))))
    rw [if_neg (by omega)]
    refine p_nil ⟨_, _, rfl, ?_⟩
    exact gcd_loop rfl fun H2 e => s_retV (v := nV (Nat.gcd a b)) (F := H2) (ev_var rfl) (Ex.refl H2) fun H3 e3 => q H3 (e.trans e3)
def low2 (a b : Nat) : Int × Int := ((a : Int) / ((Nat.gcd a b : Nat) : Int), (b : Int) / ((Nat.gcd a b : Nat) : Int))
def spLowered (K : PySem.W.Frag) : Sp := fun vs H Q _ => ∃ (F : Hp) (a b : Nat), vs = [.int (a : Int), .int (b : Int)] ∧ Ex F H ∧ 0 < b ∧ b < 1000000 ∧ ∀ x G H2, Grow F H G H2 → rPr K rInt rInt G x (low2 a b) → Q x H2
theorem low_end {F H : Hp} {a b : Nat} {Q : VK} {n b1 c1 : L2.St → Hp → Prop} (e : Ex F H) (hb : 0 < b) (hz : b < 1000000) (q : ∀ x G H2, Grow F H G H2 → rPr K rInt rInt G x (low2 a b) → Q x H2) :
    tRet (tTup (tCons (tOp (rI CDiv fun i j => .int (i / j)) (tVar 0) (tVar 2)) (tCons (tOp (rI CDiv fun i j => .int (i / j)) (tVar 1) (tVar 2)) tNil))) ⟨n, Q, b1, c1⟩ [some (nV a), some (nV b), some (nV (Nat.gcd a b))] H := by
  have h1 : 0 < Nat.gcd a b := Nat.gcd_pos_of_pos_right a hb
  have h2 : Nat.gcd a b ≤ b := Nat.gcd_le_right a hb
  have hc : ∀ i : Int, CDiv i ((Nat.gcd a b : Nat) : Int) := fun i => ⟨by omega, by omega⟩
  refine s_ret (evr_pair (K := K) (R := rInt) (S := rInt) (evr_int (ev_op (ev_var rfl) (ev_var rfl) (rv_I (hc _)))) (evr_int (ev_op (ev_var rfl) (ev_var rfl) (rv_I (hc _))))) e fun ys x G H2 hy g r => ?_
  subst hy
  exact q x G H2 g r
theorem sc_lowered : FnScope ["above", "low", "shared"] ["above", "low"] (defScope (top 28)) := ⟨rfl, rfl, rfl, by decide +kernel, rfl, by decide +kernel, by decide +kernel⟩
theorem c_lowered (D : Def K mg "lowered" (top 28) ["above", "low"]) (c_common : Cal P w K mg base 1 "common" spGcd) : Cal P w K mg base 2 "lowered" (spLowered K) := by
  refine D.cal sc_lowered (fun vs H Q E h => ?_) (fun fa cdv A outer s H vs Q E hr h => ?_)
  · obtain ⟨F, a, b, rfl, _⟩ := h
    rfl
  · obtain ⟨F, a, b, rfl, e, hb, hz, q⟩ := h
    refine ⟨_, (pss_cons (ps_set (i := 2) sc_lowered.nd rfl (.inl rfl) (pe_k c_common hr (by decide) (by rfl) (pa_cons (pv 0) (pa_cons (pv 1) pa_nil))))
      (pss_one (ps_ret (pe_tup (pa_cons (pe_op op_fdiv (pv 0) (pv 2)) (pa_cons (pe_op op_fdiv (pv 1) (pv 2)) pa_nil)))))), ?_⟩
    refine q_setV (F := F) (v := nV (Nat.gcd a b)) (fun H1 e1 Q q => p_call (p_cons (p_var rfl (p_cons (p_var rfl (p_nil ⟨a, b, rfl, fun H2 e2 => q H2 e2⟩)))))) e fun H2 e2 => ?_
    exact low_end (e.trans e2) hb hz fun x G H3 g r => q x G H3 ⟨e2.trans g.act, g.fz, g.sub, fun a o h => (g.new a o h).elim .inl fun z => .inr (fresh_back e2 z)⟩ r
theorem sc_law_lowered : FnScope ["_law_above", "_law_low", "_law_shared"] ["_law_above", "_law_low"] (defScope (top 46)) := ⟨rfl, rfl, rfl, by decide +kernel, rfl, by decide +kernel, by decide +kernel⟩
theorem c_law_lowered (D : Def K mg "_law_lowered" (top 46) ["_law_above", "_law_low"]) (c_law_common : Cal P w K mg base 1 "_law_common" spGcd) : Cal P w K mg base 2 "_law_lowered" (spLowered K) := by
  refine D.cal sc_law_lowered (fun vs H Q E h => ?_) (fun fa cdv A outer s H vs Q E hr h => ?_)
  · obtain ⟨F, a, b, rfl, _⟩ := h
    rfl
  · obtain ⟨F, a, b, rfl, e, hb, hz, q⟩ := h
    refine ⟨_, (pss_cons (ps_set (i := 2) sc_law_lowered.nd rfl (.inl rfl) (pe_k c_law_common hr (by decide) (by rfl) (pa_cons (pv 0) (pa_cons (pv 1) pa_nil))))
      (pss_one (ps_ret (pe_tup (pa_cons (pe_op op_fdiv (pv 0) (pv 2)) (pa_cons (pe_op op_fdiv (pv 1) (pv 2)) pa_nil)))))), ?_⟩
    refine q_setV (F := F) (v := nV (Nat.gcd a b)) (fun H1 e1 Q q => p_call (p_cons (p_var rfl (p_cons (p_var rfl (p_nil ⟨a, b, rfl, fun H2 e2 => q H2 e2⟩)))))) e fun H2 e2 => ?_
    exact low_end (e.trans e2) hb hz fun x G H3 g r => q x G H3 ⟨e2.trans g.act, g.fz, g.sub, fun a o h => (g.new a o h).elim .inl fun z => .inr (fresh_back e2 z)⟩ r
end
end Tr
namespace Tr
open PySem PySem.Spec PyProof.Rows L2 Evl RZ
/-! ### more small readings -/
section
variable {K : PySem.W.Frag} {σ : L2.St} {F F' H G H2 : Hp} {ta tb tc te tx tl : TE} {t u : TT} {T U W : Type} {R : Rp T} {S : Rp U} {P : T → Prop}
theorem ev_dget {d : Addr} {kvs : List (Key × V)} {k : Key} {v : V} (ha : Ev ta σ F (.ref d)) (hb : Ev tb σ F (kV k)) (hd : F d = some (.dK kvs)) (hv : valV kvs k = some v) : Ev (tDGet ta tb) σ F v := fun H1 e Q q =>
  ha H1 e _ fun H2 e2 => hb H2 (e.trans e2) _ fun H3 e3 => ⟨d, v, rfl, hv ▸ DGet.k (k := k) (e3 _ _ (e2 _ _ (e _ _ hd))), q H3 (e2.trans e3)⟩
theorem evn_two {a b : Int} (ha : Ev ta σ F (.int a)) (hb : Ev tb σ F (.int b)) : EvN rInt (fun ys => ys = [a, b]) (tLst (tCons ta (tCons tb tNil))) σ F := fun H e Q q =>
  ha H e _ fun H2 e2 => hb H2 (e.trans e2) _ fun H3 e3 => ⟨by show 2 ≤ sizeLine; decide, fun p hp => by
    have e4 := e2.trans e3
    exact q [a, b] p _ F _ rfl (Grow.of e (e4.trans (Ex.new hp))) (fresh_back (e.trans e4) hp) (fresh_back e4 hp) upd_same (.cons rfl (.cons rfl .nil))⟩
theorem evp_if {b : Bool} (h : EvT t σ F b) (h1 : b = true → EvP R P ta σ F) (h2 : b = false → EvP R P tb σ F) : EvP R P (tIf t ta tb) σ F := fun H e Q q => h H e _ fun H1 e1 => by
  cases b with
  | true =>
    rw [if_pos rfl]
    exact h1 rfl H1 (e.trans e1) Q fun x v G H2 px g r => q x v G H2 px ⟨e1.trans g.act, g.fz, g.sub, fun a o z => (g.new a o z).elim .inl fun y => .inr (fresh_back e1 y)⟩ r
  | false =>
    rw [if_neg Bool.false_ne_true]
    exact h2 rfl H1 (e.trans e1) Q fun x v G H2 px g r => q x v G H2 px ⟨e1.trans g.act, g.fz, g.sub, fun a o z => (g.new a o z).elim .inl fun y => .inr (fresh_back e1 y)⟩ r
theorem inV_ints (y : Int) (l : List Int) : inV (.int y) (l.map V.int) = l.any fun z => z == y := by
  unfold inV
  rw [List.any_map]
  rfl
theorem flat_ints (l : List Int) : (l.map V.int).all flatV = true := by
  rw [List.all_map]
  exact List.all_eq_true.mpr fun _ _ => rfl
/-- y in xs, ints -/
theorem ev_inI {y : Int} {l : List Int} (ha : Ev ta σ F (.int y)) (hb : EvR (rLst K rInt) tb σ F l) : Ev (tOp (rIn K false) ta tb) σ F (.bl (l.any fun z => z == y)) :=
  ev_opP (R := rInt) (S := rLst K rInt) (evr_int ha) hb fun x z v w G e px pz rx rz => by
    subst px pz
    cases (show v = .int x from rx)
    obtain ⟨p, vs, rfl, hl, r⟩ := rz
    rw [ints_of r] at hl
    rw [← inV_ints]
    exact rv_isL hl rfl (flat_ints z)
theorem s_retN {PL : List T → Prop} {n b c : L2.St → Hp → Prop} {r : VK} (h : EvN R PL te σ F) (e : Ex F H) (k : ∀ xs p vs G H2, PL xs → Grow F H G H2 → G p = none → H p = none → H2 p = some (.lst vs) → rSeq R G vs xs → r (.ref p) H2) : tRet te ⟨n, r, b, c⟩ σ H := h H e _ k
theorem et_yes : EvT tYes σ F true := fun H e Q q => q H (Ex.refl H)
end
theorem p_c {σ : L2.St} {H : Hp} {v : V} {Q : VK} (h : Q v H) : tC v σ H Q := h
theorem p_lst3 {σ : L2.St} {H : Hp} {ta : TA} {Q : VK} (h : ta σ H fun vs H1 => ∃ (i j c : Int) (n : Nat), vs = [.int i, .int j, .int c] ∧ RgC i j c n ∧ n ≤ 1000000 ∧ ∀ q, H1 q = none → Q (.ref q) (upd H1 q (.lst (rgC i c n)))) : tLstRg3 ta σ H Q := h
/-! ### choices_at -/
def chS (f : Nat) (here : Nat → Int) (s : Option (List Int)) (u : Nat) : Option (List Int) :=
  if u < f then some (match s with
    | none => [here u - 1, here u + 1]
    | some l => l.filter fun y => [here u - 1, here u + 1].any fun z => z == y) else s
def rg2 (lo hi : Int) : List Int := (List.range (if lo < hi then (hi - lo - 1) / 2 + 1 else 0).toNat).map fun i => lo + (i : Nat) * 2
def chL (f : Nat) (here : Nat → Int) (nf : List Nat) (lo hi : Int) : List Int := match nf.foldl (chS f here) none with
  | some l => l
  | none => rg2 lo (hi + 1)
def choM (f : Nat) (here : Nat → Int) (nf : List Nat) (lo hi : Int) : List Int := (chL f here nf lo hi).filter fun y => decide (lo ≤ y) && decide (y ≤ hi)
theorem chS_len {f : Nat} {here : Nat → Int} : ∀ {nf : List Nat} {s : Option (List Int)}, (∀ l, s = some l → l.length ≤ 2) → ∀ l, nf.foldl (chS f here) s = some l → l.length ≤ 2
  | [], _, h => h
  | u :: nf, s, h => by
    refine chS_len (nf := nf) (s := chS f here s u) fun l hl => ?_
    unfold chS at hl
    split at hl
    · cases s with
      | none => cases hl; exact Nat.le_refl _
      | some m =>
        cases hl
        exact Nat.le_trans (List.length_filter_le _ _) (h m rfl)
    · exact h l hl
theorem rgC_map (lo : Int) (n : Nat) : rgC lo 2 n = ((List.range n).map fun i => lo + (i : Nat) * 2).map V.int := by
  unfold rgC
  rw [List.map_map]
  rfl
section
variable {P : Program} {w : World} {K : PySem.W.Frag} {mg : Str → Option Value} {base : Heap}
def spChoices (K : PySem.W.Frag) : Sp := fun vs H Q _ => ∃ (vn lv hv : V) (d : Addr) (f : Nat) (ns : List (List Nat)) (nf : List Nat) (kvs : List (Key × V)) (here : Nat → Int) (low high : List Int) (lo hi : Int),
  vs = [vn, .int (f : Int), .ref d, lv, hv] ∧ rLst K (rLst K rNat) H vn ns ∧ ns[f]? = some nf ∧ H d = some (.dK kvs) ∧ (∀ u ∈ nf, u < f → valV kvs (.inl (u : Int)) = some (.int (here u))) ∧ rTup K rInt H lv low ∧ rTup K rInt H hv high ∧ low[f]? = some lo ∧ high[f]? = some hi ∧
  (-1000 ≤ lo ∧ lo ≤ 1000 ∧ -1000 ≤ hi ∧ hi ≤ 1000) ∧ ∀ p H2, H p = none → Ex H H2 → H2 p = some (.lst ((choM f here nf lo hi).map V.int)) → Q (.ref p) H2
theorem sc_choices_at : FnScope ["nears", "field", "here", "low", "high", "some", "near", "told", "height"] ["nears", "field", "here", "low", "high"] (defScope (top 23)) := ⟨rfl, rfl, rfl, by decide +kernel, rfl, by decide +kernel, by decide +kernel⟩
theorem c_choices_at (D : Def K mg "choices_at" (top 23) ["nears", "field", "here", "low", "high"]) (B : Bi mg) : Cal P w K mg base 1 "choices_at" (spChoices K) := by
  refine D.cal sc_choices_at (fun vs H Q E h => ?_) (fun fa cdv A outer s H vs Q E hr h => ?_)
  · obtain ⟨vn, lv, hv, d, f, ns, nf, kvs, here, low, high, lo, hi, rfl, _⟩ := h
    rfl
  · obtain ⟨vn, lv, hv, d, f, ns, nf, kvs, here, low, high, lo, hi, rfl, hn, hnf, hd, hval, hl, hh, hlo, hhi, ⟨b1, b2, b3, b4⟩, q⟩ := h
    refine ⟨_, (pss_cons (ps_set (i := 5) sc_choices_at.nd rfl (.inl rfl) pe_non)
      (pss_cons (ps_for PassesOwn.never rfl (pi_list' K (pe_ix (ix_list' K) (pv 0) (pv 1) (fun _ _ => rfl))) (pg_name (i := 6) sc_choices_at.nd rfl (.inl rfl))
       ((pss_one (ps_if (pt_cmpR op_lt (pv 6) (pv 1) (nomark _))
        ((pss_cons (ps_set (i := 7) sc_choices_at.nd rfl (.inr rfl) (pe_lst (pa_cons (pe_op op_sub (pe_dget (hu1 hr) (pv 2) (pv 6) (fun _ _ => rfl)) pe_int) (pa_cons (pe_op op_add (pe_dget (hu1 hr) (pv 2) (pv 6) (fun _ _ => rfl)) pe_int) pa_nil))))
        (pss_one (ps_set (i := 5) sc_choices_at.nd rfl (.inl rfl) (pe_ifExp (pt_cmpR op_isN (pv 5) pe_non (nomark _)) (pv 7) (pe_lc (own := [("height", 8)]) rfl sc_choices_at.nd (pi_list' K (pv 5)) (blkOk_by (N := ["nears", "field", "here", "low", "high", "some", "near", "told", "height"]) (sc := defScope (top 23)) (by decide +kernel)) (fun _ _ _ _ _ => (pg_name (i := 8) sc_choices_at.nd rfl (.inl rfl))) (fun _ _ _ _ _ => (pts_one (pt_cmpR (op_in_seq' K) (pv 8) (pv 7) rfl))) (fun _ _ _ _ _ => (pv 8))))))))
        (pss_nil)))))
      (pss_cons (ps_if (pt_cmpR op_isN (pv 5) pe_non (nomark _))
       ((pss_one (ps_set (i := 5) sc_choices_at.nd rfl (.inl rfl) (pe_listRg3 rfl (by rfl) B.list_ (by rfl) B.range (pa_cons (pe_ix (ix_tup' K) (pv 3) (pv 1) (fun _ _ => rfl)) (pa_cons (pe_op op_add (pe_ix (ix_tup' K) (pv 4) (pv 1) (fun _ _ => rfl)) pe_int) (pa_cons pe_int pa_nil)))))))
       (pss_nil))
      (pss_one (ps_ret (pe_lc (own := [("height", 8)]) rfl sc_choices_at.nd (pi_list' K (pv 5)) (blkOk_by (N := ["nears", "field", "here", "low", "high", "some", "near", "told", "height"]) (sc := defScope (top 23)) (by decide +kernel)) (fun _ _ _ _ _ => (pg_name (i := 8) sc_choices_at.nd rfl (.inl rfl))) (fun _ _ _ _ _ => (pts_one (pt_chain op_le op_le (pe_ix (ix_tup' K) (pv 3) (pv 1) (fun _ _ => rfl)) (pv 8) (pe_ix (ix_tup' K) (pv 4) (pv 1) (fun _ _ => rfl))))) (fun _ _ _ _ _ => (pv 8)))))))), ?_⟩
    -- what stands for the value of some
    have RS : ∀ (G : Hp) (y : V) (s : Option (List Int)), Prop := fun G y s => match s with
      | none => y = .non
      | some l => rLst K rInt G y l
    refine q_setV (F := H) (v := .non) ev_c (Ex.refl H) fun H1 e1 => ?_
    refine q_for_lst (F := H) (evr_ixL (K := K) (R := rLst K rNat) (evr_var rfl hn) (ev_var rfl) (atN hnf)) e1 (fun G i σ' H' => ∃ (y6 y7 y8 : Option V) (y5 : V) (G2 : Hp), σ' = [some vn, some (.int (f : Int)), some (.ref d), some lv, some hv, some y5, y6, y7, y8] ∧ Ex G G2 ∧ Grow H H G2 H' ∧
        (match (nf.take i).foldl (chS f here) none with
          | none => y5 = .non
          | some l => rLst K rInt G2 y5 l))
      (fun G i σ' H' ⟨_, _, _, _, _, _, e, g, _⟩ => e.trans g.sub) (fun G H2 g => ⟨none, none, none, .non, G, rfl, Ex.refl G, ⟨e1.trans g.act, g.fz, g.sub, fun a o z => (g.new a o z).elim .inl fun y => .inr (fresh_back e1 y)⟩, rfl⟩)
      (fun G i u vu σ' H' eg hu ru ⟨y6, y7, y8, y5, G2, hσ, xg, g2, hs⟩ => ?_) (fun G σ' H' eg ⟨y6, y7, y8, y5, G2, hσ, xg, g2, hs⟩ => ?_)
    · subst hσ
      cases (show vu = .int (u : Int) from ru)
      have hmem : u ∈ nf := List.mem_of_getElem? hu
      have e2 : Ex H G2 := g2.fz
      refine g_name ?_
      refine s_ifB (F := G2) (et_test (ev_op (x := .int (u : Int)) (y := .int (f : Int)) (ev_var rfl) (ev_var rfl) rv_I0)) g2.sub (fun hb H3 x3 => ?_) (fun hb H3 x3 => ?_)
      · have hlt : u < f := by have := of_decide_eq_true hb; omega
        have hv1 := hval u hmem hlt
        have ed : ∀ {σ2 : L2.St}, σ2[2]? = some (some (.ref d)) → σ2[6]? = some (some (.int (u : Int))) → Ev (tDGet (tVar 2) (tVar 6)) σ2 G2 (.int (here u)) := fun h2 h6 => ev_dget (k := .inl (u : Int)) (ev_var h2) (ev_var h6) (e2 _ _ hd) hv1
        refine q_set (F := G2) (EvN.toR (K := K) (evn_two (ev_op (ed rfl rfl) ev_c rv_I0) (ev_op (ed rfl rfl) ev_c rv_I0))) (g2.sub.trans x3) fun ts vt G3 H4 hts g3 rt => ?_
        subst hts
        have g4 : Grow H H G3 H4 := (g2.ex x3).trans g3
        cases hst : (nf.take i).foldl (chS f here) none with
        | none =>
          rw [hst] at hs
          have hs' : y5 = .non := hs
          subst hs'
          refine s_set (F := G3) (R := rLst K rInt) (P := fun l => l = [here u - 1, here u + 1]) (evp_if (b := true) (et_test (ev_op (ev_var rfl) ev_c rv_isN)) (fun _ => evr_var rfl rt) fun z => by cases z) g3.sub fun l v5 G4 H5 hl5 g5 r5 => ?_
          subst hl5
          refine ⟨_, _, _, v5, G4, rfl, (xg.trans g3.fz).trans g5.fz, g4.trans g5, ?_⟩
          rw [List.take_add_one, hu, List.foldl_append, hst]
          show (match chS f here none u with | none => v5 = .non | some l => rLst K rInt G4 v5 l)
          unfold chS
          rw [if_pos hlt]
          exact r5
        | some l =>
          rw [hst] at hs
          have hs' : rLst K rInt G2 y5 l := hs
          have hl2 := chS_len (s := none) (fun _ z => by cases z) l hst
          have hn5 : decide (y5 = V.non) = false := by
            obtain ⟨p5, _, e5, _⟩ := hs'
            rw [e5]
            exact decide_eq_false fun z => nomatch z
          refine s_set (F := G3) (R := rLst K rInt) (P := fun m => m = l.filter fun y => [here u - 1, here u + 1].any fun z => z == y) (evp_if (b := false) (et_test (ev_to (ev_op (ev_var rfl) ev_c rv_isN) (by rw [hn5]))) (fun z => by cases z) fun _ => (EvN.toR (K := K) (evn_lcL (S := rInt) (j := 8) (fun y => [here u - 1, here u + 1].any fun z => z == y) (fun (x : Int) y => y = x) (evr_var rfl (Mono.mono g3.fz hs')) (fun xs h => by rw [h]; omega) (fun _ => rfl)
            (fun xs x a G5 hxs hx eg5 ra => et_test (ev_inI (l := [here u - 1, here u + 1]) (by cases (show a = .int x from ra); exact ev_var rfl) (evr_var rfl (Mono.mono eg5 rt)))) (fun xs x a G5 hxs hx _ eg5 ra => evr_var rfl ra))).imp fun m ⟨xs, hxs, mb⟩ => by
              have := made_map (fn := fun x : Int => x) mb
              rw [this, hxs, List.map_id']) g3.sub fun m v5 G4 H5 hm5 g5 r5 => ?_
          subst hm5
          refine ⟨_, _, _, v5, G4, rfl, (xg.trans g3.fz).trans g5.fz, g4.trans g5, ?_⟩
          rw [List.take_add_one, hu, List.foldl_append, hst]
          show (match chS f here (some l) u with | none => v5 = .non | some l => rLst K rInt G4 v5 l)
          unfold chS
          rw [if_pos hlt]
          exact r5
      · have hlt : ¬ u < f := by have := of_decide_eq_false hb; omega
        refine s_next ⟨_, _, _, y5, G2, rfl, xg, g2.ex x3, ?_⟩
        rw [List.take_add_one, hu, List.foldl_append]
        show (match chS f here ((nf.take i).foldl (chS f here) none) u with | none => y5 = .non | some l => rLst K rInt G2 y5 l)
        unfold chS
        rw [if_neg hlt]
        exact hs
    · subst hσ
      rw [List.take_length] at hs
      -- the end: the filter
      have fin : ∀ (n b c : L2.St → Hp → Prop) (y5 : V) (G3 H3 : Hp) (l : List Int), Grow H H G3 H3 → rLst K rInt G3 y5 l → l.length < 100000 → chL f here nf lo hi = l → tRet (tLc (iList K (tVar 5)) (gName 8) (tTest (tChain (rI0 fun i j => .bl (decide (i ≤ j))) (rI0 fun i j => .bl (decide (i ≤ j))) (tOp (rIxT K) (tVar 3) (tVar 1)) (tVar 8) (tOp (rIxT K) (tVar 4) (tVar 1)))) (tVar 8) [8]) ⟨n, Q, b, c⟩ [some vn, some (.int (f : Int)), some (.ref d), some lv, some hv, some y5, y6, y7, y8] H3 := fun n b c y5 G3 H3 l g3 r5 hz hL => by
        refine s_retN (F := G3) (evn_lcL (S := rInt) (j := 8) (fun y => decide (lo ≤ y) && decide (y ≤ hi)) (fun (x : Int) y => y = x) (PL := fun m => m = l) (evr_var rfl r5) (fun xs h => by rw [h]; exact hz) (fun _ => rfl)
            (fun xs x a G5 hxs hx eg5 ra => et_test (ev_chainLe (ev_int (evr_ixT (K := K) (R := rInt) (evr_var rfl (Mono.mono (g3.fz.trans eg5) hl)) (ev_var rfl) (atN hlo))) (by cases (show a = .int x from ra); exact ev_var rfl) (ev_int (evr_ixT (K := K) (R := rInt) (evr_var rfl (Mono.mono (g3.fz.trans eg5) hh)) (ev_var rfl) (atN hhi))))) (fun xs x a G5 hxs hx _ eg5 ra => evr_var rfl ra)) g3.sub fun xs p vs G4 H4 hxs g4 n1 n2 h4 r4 => ?_
        obtain ⟨zs, hzs, mb⟩ := hxs
        have e5 := made_map (fn := fun x : Int => x) mb
        rw [List.map_id', hzs, ← hL] at e5
        rw [ints_of r4, e5] at h4
        exact q p H4 (g3.free n2).1 (g3.act.trans g4.act) h4
      cases hst : nf.foldl (chS f here) none with
      | none =>
        rw [hst] at hs
        have hs' : y5 = .non := hs
        subst hs'
        refine q_ifT (F := G2) (et_test (ev_op (ev_var rfl) ev_c rv_isN)) g2.sub fun H3 x3 => ?_
        have g3 := g2.ex x3
        have e2 : Ex H G2 := g2.fz
        refine s_raw (p_lst3 (p_cons ?_))
        have el : ∀ {σ2 : L2.St}, σ2[3]? = some (some lv) → σ2[1]? = some (some (.int (f : Int))) → Ev (tOp (rIxT K) (tVar 3) (tVar 1)) σ2 G2 (.int lo) := fun h3 h1 => ev_int (evr_ixT (K := K) (R := rInt) (evr_var h3 (Mono.mono e2 hl)) (ev_var h1) (atN hlo))
        have eh : ∀ {σ2 : L2.St}, σ2[4]? = some (some hv) → σ2[1]? = some (some (.int (f : Int))) → Ev (tOp (rI0 fun i j => .int (i + j)) (tOp (rIxT K) (tVar 4) (tVar 1)) (tC (.int 1))) σ2 G2 (.int (hi + 1)) := fun h4 h1 => ev_op (x := .int hi) (y := .int 1) (ev_int (evr_ixT (K := K) (R := rInt) (evr_var h4 (Mono.mono e2 hh)) (ev_var h1) (atN hhi))) ev_c rv_I0
        refine el rfl rfl H3 g3.sub _ fun H4 x4 => ?_
        refine p_cons (eh rfl rfl H4 (g3.sub.trans x4) _ fun H5 x5 => ?_)
        have g5 := (g3.ex x4).ex x5
        refine p_cons (p_c (p_nil ⟨lo, hi + 1, 2, _, rfl, rgc_two (by omega) (by omega) (by omega) (by omega), ?_, fun p np => ?_⟩))
        · split <;> omega
        · have g6 := (g5.ex (Ex.new (o := .lst (rgC lo 2 (if lo < hi + 1 then (hi + 1 - lo - 1) / 2 + 1 else 0).toNat)) np)).put (g5.free np).1 upd_same
          refine fin _ _ _ (.ref p) _ _ (rg2 lo (hi + 1)) g6 ?_ ?_ ?_
          · have e6 := rgC_map lo (if lo < hi + 1 then (hi + 1 - lo - 1) / 2 + 1 else 0).toNat
            exact rint_list (SqL.of (by show _ = some (HO.lst (((List.range _).map fun i => lo + (i : Nat) * 2).map V.int)); rw [← e6]; exact upd_same))
          · unfold rg2
            rw [List.length_map, List.length_range]
            split <;> omega
          · unfold chL
            rw [hst]
      | some l =>
        rw [hst] at hs
        have hs' : rLst K rInt G2 y5 l := hs
        have hl2 := chS_len (s := none) (fun _ z => by cases z) l hst
        have hn5 : decide (y5 = V.non) = false := by
          obtain ⟨p5, _, e5, _⟩ := hs'
          rw [e5]
          exact decide_eq_false fun z => nomatch z
        refine q_skip (F := G2) (et_test (ev_to (ev_op (ev_var rfl) ev_c rv_isN) (by rw [hn5]))) g2.sub fun H3 x3 => ?_
        exact fin _ _ _ y5 G2 H3 l (g2.ex x3) hs' (by omega) (by unfold chL; rw [hst])
end
end Tr
namespace Tr
open PySem PySem.Spec PyProof.Rows L2 Evl RZ
/-! ### layings field by field, tables of them: the plain law -/
def stepP (ns : List (List Nat)) (low high : List Int) (f : Nat) (p : List Int) : List (List Int) := (choM f (fun u => p.getD u 0) (ns.getD f []) (low.getD f 0) (high.getD f 0)).map fun y => p ++ [y]
def parts (ns : List (List Nat)) (low high : List Int) : Nat → List (List Int)
  | 0 => [[]]
  | f + 1 => (parts ns low high f).flatMap (stepP ns low high f)
theorem parts_len {ns : List (List Nat)} {low high : List Int} : ∀ (f : Nat) (p : List Int), p ∈ parts ns low high f → p.length = f
  | 0, p, h => by
    rw [parts, List.mem_singleton] at h
    rw [h]
    rfl
  | f + 1, p, h => by
    rw [parts, List.mem_flatMap] at h
    obtain ⟨q, hq, hp⟩ := h
    obtain ⟨y, _, rfl⟩ := List.mem_map.mp hp
    rw [List.length_append, parts_len f q hq]
    rfl
theorem chS_congr {f : Nat} {h1 h2 : Nat → Int} : ∀ {nf : List Nat} {s : Option (List Int)}, (∀ u ∈ nf, u < f → h1 u = h2 u) → nf.foldl (chS f h1) s = nf.foldl (chS f h2) s
  | [], _, _ => rfl
  | u :: nf, s, h => by
    rw [List.foldl_cons, List.foldl_cons]
    have e : chS f h1 s u = chS f h2 s u := by
      unfold chS
      by_cases c : u < f
      · rw [if_pos c, if_pos c, h u (List.mem_cons_self ..) c]
      · rw [if_neg c, if_neg c]
    rw [e]
    exact chS_congr fun v hv => h v (List.mem_cons_of_mem _ hv)
theorem choM_congr {f : Nat} {h1 h2 : Nat → Int} {nf : List Nat} {lo hi : Int} (h : ∀ u ∈ nf, u < f → h1 u = h2 u) : choM f h1 nf lo hi = choM f h2 nf lo hi := by
  unfold choM chL
  rw [chS_congr h]
/-! tables -/
abbrev Tb := List (List Int × List (List Int))
def tK (k : List Int) : List Key := k.map Sum.inl
theorem tK_inj {k l : List Int} (h : tK k = tK l) : k = l := by
  unfold tK at h
  exact (List.map_inj_right (fun a b e => Sum.inl.inj e)).mp h
theorem tK_dec (k l : List Int) : decide (tK k = tK l) = decide (k = l) := by
  by_cases h : k = l
  · rw [h]; simp
  · rw [decide_eq_false h]
    exact decide_eq_false fun z => h (tK_inj z)
theorem tK_kV (k : List Int) : (tK k).map kV = k.map V.int := by
  unfold tK
  rw [List.map_map]
  rfl
def tV (tb : Tb) : List (List Key × V) := tb.map fun e => (tK e.1, .int (e.2.length : Int))
def putG (tb : Tb) (k : List Int) (g : List (List Int)) : Tb := if (tb.any fun e => decide (e.1 = k)) = true then tb.map (fun e => if e.1 = k then (e.1, e.2 ++ g) else e) else tb ++ [(k, g)]
structure Rep (key : List Int → List Int) (tb : Tb) (ps : List (List Int)) : Prop where
  pm : (tb.flatMap (·.2)).Perm ps
  ne : ∀ e ∈ tb, e.2 ≠ [] ∧ ∀ p ∈ e.2, key p = e.1
  nd : (tb.map (·.1)).Nodup
theorem Rep.perm {key : List Int → List Int} {tb : Tb} {ps qs : List (List Int)} (r : Rep key tb ps) (h : ps.Perm qs) : Rep key tb qs := ⟨r.pm.trans h, r.ne, r.nd⟩
theorem any_tV (tb : Tb) (k : List Int) : ((tV tb).any fun kv => decide (kv.1 = tK k)) = tb.any fun e => decide (e.1 = k) := by
  unfold tV
  rw [List.any_map]
  congr 1
  funext e
  exact tK_dec e.1 k
def cntT (tb : Tb) (k : List Int) : Nat := match tb.find? fun e => decide (e.1 = k) with
  | some e => e.2.length
  | none => 0
theorem get_tV (tb : Tb) (k : List Int) : (valV (tV tb) (tK k)).getD (.int 0) = .int (cntT tb k : Int) := by
  unfold valV cntT tV
  rw [List.find?_map]
  have e : ((fun kv : List Key × V => decide (kv.1 = tK k)) ∘ fun e : List Int × List (List Int) => (tK e.1, V.int (e.2.length : Int))) = fun e => decide (e.1 = k) := by
    funext e
    exact tK_dec e.1 k
  rw [e]
  cases tb.find? fun e => decide (e.1 = k) with
  | none => rfl
  | some e => rfl
theorem cnt_of {tb : Tb} {e : List Int × List (List Int)} (nd : (tb.map (·.1)).Nodup) (he : e ∈ tb) : cntT tb e.1 = e.2.length := by
  induction tb with
  | nil => cases he
  | cons x r ih =>
    rw [List.map_cons, List.nodup_cons] at nd
    unfold cntT
    rw [List.find?_cons]
    rcases List.mem_cons.mp he with z | z
    · subst z
      rw [decide_eq_true rfl]
    · have hx : ¬ x.1 = e.1 := fun q => nd.1 (by rw [q]; exact List.mem_map.mpr ⟨e, z, rfl⟩)
      rw [decide_eq_false hx]
      exact ih nd.2 z
theorem put_tV {tb : Tb} (nd : (tb.map (·.1)).Nodup) (k : List Int) (g : List (List Int)) : putK (tV tb) (tK k) (.int ((cntT tb k : Int) + (g.length : Int))) = tV (putG tb k g) := by
  unfold putK putG
  rw [any_tV]
  by_cases h : (tb.any fun e => decide (e.1 = k)) = true
  · rw [if_pos h, if_pos h]
    unfold tV
    rw [List.map_map, List.map_map]
    refine List.map_congr_left fun e he => ?_
    show (if tK e.1 = tK k then (tK e.1, V.int ((cntT tb k : Int) + (g.length : Int))) else (tK e.1, V.int (e.2.length : Int))) = (tK (if e.1 = k then (e.1, e.2 ++ g) else e).1, V.int ((if e.1 = k then (e.1, e.2 ++ g) else e).2.length : Int))
    by_cases c : e.1 = k
    · have hc := cnt_of nd he
      rw [if_pos (by rw [c]), if_pos c, ← c, hc, List.length_append]
      simp
    · rw [if_neg (fun z => c (tK_inj z)), if_neg c]
  · rw [if_neg h, if_neg h]
    unfold tV
    rw [List.map_append]
    have h0 : cntT tb k = 0 := by
      unfold cntT
      cases hf : tb.find? fun e => decide (e.1 = k) with
      | none => rfl
      | some e =>
        exfalso
        apply h
        have := List.find?_some hf
        exact List.any_eq_true.mpr ⟨e, List.mem_of_find?_eq_some hf, this⟩
    rw [h0]
    simp
theorem map_same {tb : Tb} {k : List Int} {g : List (List Int)} (h : ∀ e ∈ tb, e.1 ≠ k) : tb.map (fun e => if e.1 = k then (e.1, e.2 ++ g) else e) = tb := by
  have := List.map_congr_left (l := tb) (f := fun e => if e.1 = k then (e.1, e.2 ++ g) else e) (g := id) fun e he => by
    show (if e.1 = k then (e.1, e.2 ++ g) else e) = e
    rw [if_neg (h e he)]
  rw [this, List.map_id]
theorem keys_map (tb : Tb) (k : List Int) (g : List (List Int)) : (tb.map (fun e => if e.1 = k then (e.1, e.2 ++ g) else e)).map (·.1) = tb.map (·.1) := by
  rw [List.map_map]
  refine List.map_congr_left fun e _ => ?_
  show (if e.1 = k then (e.1, e.2 ++ g) else e).1 = e.1
  split <;> rfl
theorem perm_put {k : List Int} {g : List (List Int)} : ∀ {tb : Tb}, (tb.map (·.1)).Nodup → (tb.any fun e => decide (e.1 = k)) = true → ((tb.map (fun e => if e.1 = k then (e.1, e.2 ++ g) else e)).flatMap (·.2)).Perm (tb.flatMap (·.2) ++ g)
  | [], _, h => by simp at h
  | e :: r, nd, h => by
    rw [List.map_cons, List.nodup_cons] at nd
    rw [List.map_cons, List.flatMap_cons, List.flatMap_cons]
    by_cases c : e.1 = k
    · rw [if_pos c, map_same fun x hx z => nd.1 (List.mem_map.mpr ⟨x, hx, by rw [z, c]⟩)]
      show ((e.2 ++ g) ++ r.flatMap (·.2)).Perm _
      rw [List.append_assoc, List.append_assoc]
      exact List.Perm.append_left _ List.perm_append_comm
    · rw [if_neg c]
      rw [List.any_cons, decide_eq_false c, Bool.false_or] at h
      rw [List.append_assoc]
      exact List.Perm.append_left _ (perm_put nd.2 h)
theorem Rep.put {key : List Int → List Int} {tb : Tb} {ps : List (List Int)} (r : Rep key tb ps) {k : List Int} {g : List (List Int)} (hg : g ≠ []) (hk : ∀ p ∈ g, key p = k) : Rep key (putG tb k g) (ps ++ g) := by
  unfold putG
  by_cases h : (tb.any fun e => decide (e.1 = k)) = true
  · rw [if_pos h]
    refine ⟨(perm_put r.nd h).trans (r.pm.append_right g), fun e he => ?_, by rw [keys_map]; exact r.nd⟩
    obtain ⟨x, hx, rfl⟩ := List.mem_map.mp he
    by_cases c : x.1 = k
    · rw [if_pos c]
      refine ⟨fun z => hg (List.append_eq_nil_iff.mp z).2, fun p hp => ?_⟩
      rcases List.mem_append.mp hp with z | z
      · exact (r.ne x hx).2 p z
      · exact (hk p z).trans c.symm
    · rw [if_neg c]
      exact r.ne x hx
  · rw [if_neg h]
    refine ⟨?_, fun e he => ?_, ?_⟩
    · rw [List.flatMap_append]
      show (tb.flatMap (fun e : List Int × List (List Int) => e.2) ++ (g ++ [])).Perm _
      rw [List.append_nil]
      exact r.pm.append_right g
    · rcases List.mem_append.mp he with z | z
      · exact r.ne e z
      · rw [List.mem_singleton] at z
        subst z
        exact ⟨hg, hk⟩
    · rw [List.map_append, List.nodup_append]
      refine ⟨r.nd, List.pairwise_singleton _ _, fun a ha b hb e => ?_⟩
      rw [List.map_cons, List.map_nil, List.mem_singleton] at hb
      subst hb
      subst e
      obtain ⟨x, hx, hx2⟩ := List.mem_map.mp ha
      exact h (List.any_eq_true.mpr ⟨x, hx, decide_eq_true hx2⟩)
theorem Rep.nil (key : List Int → List Int) : Rep key [] [] := ⟨List.Perm.refl _, fun e he => (by cases he), List.nodup_nil⟩
theorem flat_ge : ∀ {tb : Tb}, (∀ e ∈ tb, e.2 ≠ []) → tb.length ≤ (tb.flatMap (·.2)).length
  | [], _ => Nat.zero_le _
  | e :: r, h => by
    rw [List.flatMap_cons, List.length_cons, List.length_append]
    have h1 := flat_ge fun x hx => h x (List.mem_cons_of_mem _ hx)
    have h2 := List.length_pos_iff.mpr (h e (List.mem_cons_self ..))
    omega
theorem Rep.len {key : List Int → List Int} {tb : Tb} {ps : List (List Int)} (r : Rep key tb ps) : tb.length ≤ ps.length := by
  rw [← r.pm.length_eq]
  exact flat_ge fun e he => (r.ne e he).1
theorem Rep.one {key : List Int → List Int} {tb : Tb} {ps : List (List Int)} (r : Rep key tb ps) (h : ∀ p, key p = []) : tb.length ≤ 1 := by
  have hk : ∀ e ∈ tb, e.1 = [] := fun e he => by
    obtain ⟨h1, h2⟩ := r.ne e he
    obtain ⟨p, hp⟩ := List.exists_mem_of_ne_nil _ h1
    rw [← h2 p hp, h]
  match tb, hk, r.nd with
  | [], _, _ => exact Nat.zero_le _
  | [e], _, _ => exact Nat.le_refl _
  | e :: x :: t, hk, nd =>
    exfalso
    rw [List.map_cons, List.nodup_cons] at nd
    refine nd.1 ?_
    rw [hk e (List.mem_cons_self ..), List.map_cons, hk x (List.mem_cons_of_mem _ (List.mem_cons_self ..))]
    exact List.mem_cons_self ..
def sumT (tb : Tb) : List Int := tb.map fun e => (e.2.length : Int)
theorem vals_tV (tb : Tb) : (tV tb).map (·.2) = (sumT tb).map V.int := by
  unfold tV sumT
  rw [List.map_map, List.map_map]
  rfl
theorem sum_flat : ∀ tb : Tb, (sumT tb).sum = ((tb.flatMap (·.2)).length : Int)
  | [] => rfl
  | e :: r => by
    unfold sumT
    rw [List.map_cons, List.sum_cons, List.flatMap_cons, List.length_append]
    have := sum_flat r
    unfold sumT at this
    rw [this]
    simp
theorem Rep.sum {key : List Int → List Int} {tb : Tb} {ps : List (List Int)} (r : Rep key tb ps) : (sumT tb).sum = (ps.length : Int) := by
  rw [sum_flat, r.pm.length_eq]
/-! one group -/
theorem flat_cons_perm {α β : Type} (a : α → β) (b : α → List β) : ∀ g : List α, (g.flatMap fun p => a p :: b p).Perm (g.map a ++ g.flatMap b)
  | [] => List.Perm.refl _
  | p :: g => by
    rw [List.flatMap_cons, List.map_cons, List.flatMap_cons, List.cons_append, List.cons_append]
    refine List.Perm.cons _ ?_
    refine (List.Perm.append_left _ (flat_cons_perm a b g)).trans ?_
    rw [← List.append_assoc, ← List.append_assoc]
    exact List.Perm.append_right _ List.perm_append_comm
theorem swap_flat {α β γ : Type} (f : α → β → γ) (g : List α) : ∀ ch : List β, (ch.flatMap fun y => g.map fun p => f p y).Perm (g.flatMap fun p => ch.map fun y => f p y)
  | [] => by
    have : (g.flatMap fun p => ([] : List β).map fun y => f p y) = [] := List.flatMap_eq_nil_iff.mpr fun _ _ => rfl
    rw [this]
    exact List.Perm.refl _
  | y :: ch => by
    rw [List.flatMap_cons]
    exact (List.Perm.append_left _ (swap_flat f g ch)).trans (flat_cons_perm (fun p => f p y) (fun p => ch.map fun z => f p z) g).symm
theorem take_flat_len {α β : Type} (F : α → List β) (l : List α) (i : Nat) : ((l.take i).flatMap F).length ≤ (l.flatMap F).length := by
  have e : l.flatMap F = (l.take i).flatMap F ++ (l.drop i).flatMap F := by
    rw [← List.flatMap_append, List.take_append_drop]
  rw [e, List.length_append]
  omega
theorem flatMap_congr {α β : Type} {F G : α → List β} : ∀ {l : List α}, (∀ x ∈ l, F x = G x) → l.flatMap F = l.flatMap G
  | [], _ => rfl
  | x :: r, h => by
    rw [List.flatMap_cons, List.flatMap_cons, h x (List.mem_cons_self ..), flatMap_congr fun y hy => h y (List.mem_cons_of_mem _ hy)]
theorem flatMap_perm {α β : Type} (F : α → List β) {l m : List α} (h : l.Perm m) : (l.flatMap F).Perm (m.flatMap F) := by
  induction h with
  | nil => exact List.Perm.refl _
  | cons x _ ih =>
    rw [List.flatMap_cons, List.flatMap_cons]
    exact List.Perm.append_left _ ih
  | swap x y t =>
    rw [List.flatMap_cons, List.flatMap_cons, List.flatMap_cons, List.flatMap_cons, ← List.append_assoc, ← List.append_assoc]
    exact List.Perm.append_right _ List.perm_append_comm
  | trans _ _ i1 i2 => exact i1.trans i2
theorem group_perm {ns : List (List Nat)} {low high : List Int} {f : Nat} {g : List (List Int)} {ch : List Int} (h : ∀ p ∈ g, choM f (fun u => p.getD u 0) (ns.getD f []) (low.getD f 0) (high.getD f 0) = ch) :
    (ch.flatMap fun y => g.map fun p => p ++ [y]).Perm (g.flatMap (stepP ns low high f)) := by
  refine (swap_flat (fun (p : List Int) (y : Int) => p ++ [y]) g ch).trans ?_
  rw [flatMap_congr (l := g) (F := stepP ns low high f) (G := fun p => ch.map fun y => p ++ [y]) fun p hp => by
    unfold stepP
    rw [h p hp]]
/-! the fields kept -/
def ahd (ns : List (List Nat)) : Nat → List Nat
  | 0 => []
  | f + 1 => keptM ns f
def keyF (ns : List (List Nat)) (f : Nat) (p : List Int) : List Int := (ahd ns f).map fun u => p.getD u 0
theorem mem_kept {ns : List (List Nat)} {last u : Nat} : u ∈ keptM ns last ↔ u ≤ last ∧ behind ns last u = true := by
  unfold keptM
  rw [List.mem_filter, List.mem_range, Nat.lt_succ_iff]
theorem kept_nodup (ns : List (List Nat)) (last : Nat) : (keptM ns last).Nodup := List.Pairwise.filter _ List.nodup_range
theorem ahd_nodup (ns : List (List Nat)) : ∀ f, (ahd ns f).Nodup
  | 0 => List.nodup_nil
  | f + 1 => kept_nodup ns f
theorem behind_iff {wb : Web} {ns : List (List Nat)} (N : NearsOK wb ns) {last u : Nat} (hu : u < wb.1) : behind ns last u = true ↔ ∃ v, Adj wb.2 u v ∧ last < v := by
  obtain ⟨l, hl⟩ : ∃ l, ns[u]? = some l := ⟨_, List.getElem?_eq_getElem (by rw [N.len]; exact hu)⟩
  have e : ns.getD u [] = l := by rw [List.getD_eq_getElem?_getD, hl]; rfl
  unfold behind
  rw [e]
  have hm := N.mem u l hl
  have hp := N.up u l hl
  by_cases hn : l = []
  · subst hn
    constructor
    · intro h; cases h
    · rintro ⟨v, hv, _⟩
      have := (hm v).mpr hv
      cases this
  · have e2 : l.getLastD 0 = l.getLast hn := by
      rw [List.getLastD_eq_getLast?, List.getLast?_eq_getLast hn]
      rfl
    rw [e2, show l.isEmpty = false from by cases l with
      | nil => exact absurd rfl hn
      | cons _ _ => rfl]
    rw [show (!false) = true from rfl, Bool.true_and, decide_eq_true_eq]
    constructor
    · exact fun h => ⟨_, (hm _).mp (List.getLast_mem hn), h⟩
    · rintro ⟨v, hv, hlt⟩
      have hv2 := (hm v).mpr hv
      have e3 : l = l.dropLast ++ [l.getLast hn] := (List.dropLast_concat_getLast hn).symm
      rw [e3] at hv2
      rcases List.mem_append.mp hv2 with z | z
      · rw [e3, List.pairwise_append] at hp
        have := hp.2.2 v z _ (List.mem_singleton.mpr rfl)
        omega
      · rw [List.mem_singleton] at z
        omega
/-- an earlier neighbor is among the kept fields -/
theorem near_kept {wb : Web} {ns : List (List Nat)} (N : NearsOK wb ns) (wf : WebForm wb) {f u : Nat} (hf : f < wb.1) (ha : Adj wb.2 f u) (hu : u < f) : u ∈ ahd ns f := by
  cases f with
  | zero => omega
  | succ k =>
    refine mem_kept.mpr ⟨by omega, (behind_iff N (by omega)).mpr ⟨k + 1, ha.symm, by omega⟩⟩
/-- what is kept behind field f was kept ahead of it, or is f -/
theorem kept_next {wb : Web} {ns : List (List Nat)} (N : NearsOK wb ns) {f u : Nat} (hf : f < wb.1) (h : u ∈ keptM ns f) : u = f ∨ (u < f ∧ u ∈ ahd ns f) := by
  obtain ⟨h1, h2⟩ := mem_kept.mp h
  by_cases e : u = f
  · exact .inl e
  · refine .inr ⟨by omega, ?_⟩
    obtain ⟨v, hv, hlt⟩ := (behind_iff N (by omega)).mp h2
    cases f with
    | zero => omega
    | succ k => exact mem_kept.mpr ⟨by omega, (behind_iff N (by omega)).mpr ⟨v, hv, by omega⟩⟩
/-! the dict here -/
theorem val_zip_not {k : Key} : ∀ {ks : List Int} {us : List V} {kvs : List (Key × V)}, (∀ i ∈ ks, (Sum.inl i : Key) ≠ k) → valV (mergeK kvs (zipK ks us)) k = valV kvs k
  | [], _, _, _ => rfl
  | i :: ks, [], _, _ => rfl
  | i :: ks, u :: us, kvs, h => by
    show valV (mergeK (putK kvs (Sum.inl i) u) (zipK ks us)) k = _
    rw [val_zip_not fun j hj => h j (List.mem_cons_of_mem _ hj), valV_put, if_neg (fun z => h i (List.mem_cons_self ..) z.symm)]
theorem val_zip : ∀ {ks : List Int} {us : List V} {kvs : List (Key × V)} {i : Nat} {k : Int} {u : V}, ks.Nodup → ks[i]? = some k → us[i]? = some u → valV (mergeK kvs (zipK ks us)) (Sum.inl k) = some u
  | [], _, _, _, _, _, _, h, _ => by simp at h
  | _ :: _, [], _, _, _, _, _, _, h => by simp at h
  | a :: ks, b :: us, kvs, 0, k, u, nd, h1, h2 => by
    rw [List.getElem?_cons_zero] at h1 h2
    cases h1
    cases h2
    rw [List.nodup_cons] at nd
    show valV (mergeK (putK kvs (Sum.inl a) b) (zipK ks us)) (Sum.inl a) = _
    rw [val_zip_not fun j hj z => nd.1 (by cases z; exact hj), valV_put, if_pos rfl]
  | a :: ks, b :: us, kvs, i + 1, k, u, nd, h1, h2 => by
    rw [List.getElem?_cons_succ] at h1 h2
    rw [List.nodup_cons] at nd
    exact val_zip (kvs := putK kvs (Sum.inl a) b) nd.2 h1 h2
theorem len_put_old {kvs : List (Key × V)} {k : Key} {v : V} (h : (valV kvs k).isSome = true) : (putK kvs k v).length = kvs.length := by
  unfold putK
  rw [valV_any, h, if_pos rfl, List.length_map]
end Tr
namespace Tr
open PySem PySem.Spec PyProof.Rows L2 Evl RZ
/-- the turns of a locked dict with tuple keys -/
theorem for_itemsT {d : Addr} {od : Obj} {kvs : List (List Key × V)} {g : TG} {tb : TS} {D : Ends} {σ : L2.St} {H : Hp} (Pv : Nat → L2.St → Hp → Prop) (h0 : Pv 0 σ H) (hq : ∀ i σ H, Pv i σ H → H d = some (.frz od (.dT kvs)))
    (hs : ∀ (i : Nat) (k : List Key) (v : V) (q T : Addr) (σ : L2.St) (H : Hp), kvs[i]? = some (k, v) → Pv i σ H → H q = some (.tup (k.map kV)) → H T = none → g (.ref T) σ (upd H T (.tup [.ref q, v])) fun σ2 H2 => tb { D with nx := Pv (i + 1), ct := Pv (i + 1), bk := D.nx } σ2 H2) (hd : ∀ σ H, Pv kvs.length σ H → D.nx σ H) :
    ∃ W : Nat → Nat → L2.St → Hp → Prop, (∃ m, W 0 m σ H) ∧ ∀ i m σ H, W i m σ H →
      ((ItiT d od kvs).stop i H ∧ D.nx σ H) ∨ ((ItiT d od kvs).go i H ∧ ∃ N : L2.St → Hp → Prop, (∀ σ' H', N σ' H' → ∃ m', m' < m ∧ W (i + 1) m' σ' H') ∧ ∀ v H', (ItiT d od kvs).yld i H v H' → g v σ H' fun σ2 H2 => tb { D with nx := N, ct := N, bk := D.nx } σ2 H2) := by
  refine ⟨fun i m σ H => m = kvs.length - i ∧ i ≤ kvs.length ∧ Pv i σ H, ⟨kvs.length, rfl, Nat.zero_le _, h0⟩, ?_⟩
  rintro i m σ H ⟨rfl, hi, p⟩
  have q0 := hq i σ H p
  by_cases hlt : i < kvs.length
  · refine .inr ⟨⟨q0, hlt⟩, Pv (i + 1), fun σ' H' p' => ⟨kvs.length - (i + 1), by omega, rfl, hlt, p'⟩, fun v H' y => ?_⟩
    obtain ⟨T, k, v', q, hk, rfl, hq2, hT, rfl⟩ := y
    exact hs i k v' q T σ H hk p hq2 hT
  · have e : i = kvs.length := by omega
    subst e
    exact .inl ⟨⟨q0, Nat.le_refl _⟩, hd σ H p⟩
theorem Grow.unlock {F H G H' : Hp} {p : Addr} {u : HO} {od : Obj} (hp : H p = some u) (fp : F p = none) (g : Grow F (upd H p (.frz od u)) G H') (gp : G p = none) : Grow F H G (upd H' p u) := by
  refine ⟨fun a o h => ?_, g.fz, fun a o h => ?_, fun a o h => ?_⟩
  · by_cases e : a = p
    · subst e
      rw [hp] at h
      rw [upd_same]
      exact h
    · rw [upd_ne e]
      exact g.act a o (by rw [upd_ne e]; exact h)
  · by_cases e : a = p
    · subst e
      rw [gp] at h
      cases h
    · rw [upd_ne e]
      exact g.sub a o h
  · rcases g.new a o h with z | z
    · exact .inl z
    · refine .inr ?_
      by_cases e : a = p
      · subst e
        rw [upd_same] at z
        cases z
      · rw [upd_ne e] at z
        exact z
theorem ne_cell {H : Hp} {p q : Addr} {o : HO} (h : H p = some o) (n : H q = none) : q ≠ p := fun z => by rw [z, h] at n; cases n
theorem keep_upd {H : Hp} {p q : Addr} {o u : HO} (h : H p = some o) (n : q ≠ p) : upd H q u p = some o := by
  rw [upd_ne (fun z => n z.symm)]
  exact h
structure HereOK (ah : List Nat) (i m : Nat) (p0 : List Int) (kvh : List (Key × V)) : Prop where
  val : ∀ u ∈ ah, u ≠ i → valV kvh (.inl (u : Int)) = some (.int (p0.getD u 0))
  len : kvh.length ≤ m ∨ (kvh.length ≤ m + 1 ∧ (valV kvh (.inl (i : Int))).isSome = true)
theorem HereOK.put {ah : List Nat} {i m : Nat} {p0 : List Int} {kvh : List (Key × V)} (h : HereOK ah i m p0 kvh) (y : Int) : HereOK ah i m p0 (putK kvh (.inl (i : Int)) (.int y)) := by
  refine ⟨fun u hu ne => ?_, .inr ⟨?_, ?_⟩⟩
  · rw [valV_put, if_neg (fun z => ne (by have := Sum.inl.inj z; omega))]
    exact h.val u hu ne
  · rcases h.len with l | ⟨l, s⟩
    · have := length_putK kvh (.inl (i : Int)) (.int y)
      omega
    · rw [len_put_old s]
      exact l
  · rw [valV_put, if_pos rfl]
    rfl
theorem here_start {ah : List Nat} (nd : ah.Nodup) (i : Nat) (p0 : List Int) : HereOK ah i ah.length p0 (mergeK [] (zipK (ah.map fun (u : Nat) => (u : Int)) ((ah.map fun u => p0.getD u 0).map V.int))) := by
  refine ⟨fun u hu _ => ?_, .inl ?_⟩
  · obtain ⟨j, hj⟩ := List.getElem?_of_mem hu
    refine val_zip (i := j) (List.Pairwise.map _ (fun a b h z => h (by omega)) nd) ?_ ?_
    · rw [List.getElem?_map, hj]
      rfl
    · rw [List.getElem?_map, List.getElem?_map, hj]
      rfl
  · have := length_mergeK (zipK (ah.map fun (u : Nat) => (u : Int)) ((ah.map fun u => p0.getD u 0).map V.int)) []
    unfold zipK at this ⊢
    rw [List.length_zip, List.length_map, List.length_map, List.length_map, List.length_map] at this
    rw [List.length_nil] at this
    omega
theorem ahd_len (ns : List (List Nat)) : ∀ f, (ahd ns f).length ≤ f
  | 0 => Nat.le_refl _
  | f + 1 => by
    have := List.length_filter_le (behind ns f) (List.range (f + 1))
    rw [List.length_range] at this
    exact this
theorem get_getD {T : Type} {l : List T} {i : Nat} (d : T) (h : i < l.length) : l[i]? = some (l.getD i d) := by
  rw [List.getD_eq_getElem?_getD, List.getElem?_eq_getElem h]
  rfl
theorem ahd_lt {ns : List (List Nat)} {f u : Nat} (h : u ∈ ahd ns f) : u < f := by
  cases f with
  | zero => cases h
  | succ k =>
    have := (mem_kept.mp h).1
    omega
section
variable {P : Program} {w : World} {K : PySem.W.Frag} {mg : Str → Option Value} {base : Heap}
theorem p_for {wi : TI} {g : TG} {tb : TS} {D : Ends} {σ : L2.St} {H : Hp} (h : wi σ H fun J H1 => ∃ W : Nat → Nat → L2.St → Hp → Prop, (∃ m, W 0 m σ H1) ∧ ∀ i m σ H, W i m σ H →
  (J.stop i H ∧ D.nx σ H) ∨ (J.go i H ∧ ∃ N : L2.St → Hp → Prop, (∀ σ' H', N σ' H' → ∃ m', m' < m ∧ W (i + 1) m' σ' H') ∧ ∀ x H', J.yld i H x H' → g x σ H' fun σ2 H2 => tb { D with nx := N, ct := N, bk := D.nx } σ2 H2)) : tFor wi g tb D σ H := h
theorem p_iL {tl : TE} {σ : L2.St} {H : Hp} {R : It → Hp → Prop} (h : tl σ H fun x H1 => ∃ p, x = .ref p ∧ (∃ xs, SqL K H1 p xs) ∧ R (Itl K p) H1) : iList K tl σ H R := h
theorem p_dget2 {td ty tx : TE} {σ : L2.St} {H : Hp} {Q : VK} (h : td σ H fun x H1 => ∃ a, x = .ref a ∧ IsD H1 a ∧ ty σ H1 fun y H2 => tx σ H2 fun z H3 => ∃ o, DGet H3 a y o ∧ Q (o.getD z) H3) : tDGet2 td ty tx σ H Q := h
theorem p_dput {td ty tv : TE} {σ : L2.St} {H : Hp} {D : Ends} (h : tv σ H fun v H1 => td σ H1 fun x H2 => ty σ H2 fun y H3 => ∃ a H4, x = .ref a ∧ DPut H3 a y v H4 ∧ D.nx σ H4) : sDPut td ty tv D σ H := h
theorem q_dput {td ty tv : TE} {σ : L2.St} {H : Hp} {D : Ends} {u2 : TS} (h : tv σ H fun v H1 => td σ H1 fun x H2 => ty σ H2 fun y H3 => ∃ a H4, x = .ref a ∧ DPut H3 a y v H4 ∧ u2 D σ H4) : tSeq (sDPut td ty tv) u2 D σ H := h
theorem p_dz {ta : TA} {σ : L2.St} {H : Hp} {Q : VK} (h : ta σ H fun vs H1 => ∃ (a b : Addr) (ks : List Int) (us : List V), vs = [.ref a, .ref b] ∧ SqL K H1 a (ks.map V.int) ∧ SqT K H1 b us ∧ ks.length = us.length ∧ ks.length ≤ 1000 ∧
  ∀ p, H1 p = none → Q (.ref p) (upd H1 p (.dK (mergeK [] (zipK ks us))))) : tDictZ K ta σ H Q := h
structure Bnds (n : Nat) (low high : List Int) : Prop where
  l1 : low.length = n
  l2 : high.length = n
  b1 : ∀ x ∈ low, -1000 ≤ x ∧ x ≤ 1000
  b2 : ∀ x ∈ high, -1000 ≤ x ∧ x ≤ 1000
def Cap (wb : Web) (low high : List Int) : Prop := ∀ ns, NearsOK wb ns → ∀ f, f < wb.1 → (parts ns low high (f + 1)).length < 16000000 ∨ keptM ns f = []
def spTables (K : PySem.W.Frag) : Sp := fun vs H Q _ => ∃ (F : Hp) (v lv hv : V) (wb : Web) (low high : List Int), vs = [v, lv, hv] ∧ Ex F H ∧ rWeb K F v wb ∧ WebOK wb ∧ rTup K rInt F lv low ∧ rTup K rInt F hv high ∧ Bnds wb.1 low high ∧ Cap wb low high ∧
  ∀ ns Lf ws pd tb H2, NearsOK wb ns → Rep (keyF ns wb.1) tb (parts ns low high wb.1) → Ex H H2 → H2 Lf = some (.lst (ws ++ [.ref pd])) → H2 pd = some (.dT (tV tb)) → Q (.ref Lf) H2
/-- what one more height of one group does to the table -/
theorem rep_len {ns : List (List Nat)} {low high : List Int} {f : Nat} {tl : Tb} {ps : List (List Int)} (hr : Rep (keyF ns (f + 1)) tl ps) (hps : ps.length ≤ (parts ns low high (f + 1)).length) (hc : (parts ns low high (f + 1)).length < 16000000 ∨ keptM ns f = []) : tl.length < 16000000 := by
  rcases hc with h | h
  · have := hr.len
    omega
  · have := hr.one fun p => by
      show (keptM ns f).map _ = []
      rw [h]
      rfl
    omega
theorem sc_tables_of : FnScope ["web", "low", "high", "nears", "found", "now", "ahead", "field", "keep", "later", "told", "many", "here", "height", "key", "one"] ["web", "low", "high"] (defScope (top 24)) := ⟨rfl, rfl, rfl, by decide +kernel, rfl, by decide +kernel, by decide +kernel⟩
theorem c_tables_of (D : Def K mg "tables_of" (top 24) ["web", "low", "high"]) (B : Bi mg) (c_nears_of : Cal P w K mg base 1 "nears_of" (spNears K)) (c_kept_at : Cal P w K mg base 1 "kept_at" (spKept K)) (c_choices_at : Cal P w K mg base 1 "choices_at" (spChoices K)) : Cal P w K mg base 2 "tables_of" (spTables K) := by
  refine D.cal sc_tables_of (fun vs H Q E h => ?_) (fun fa cdv A outer s H vs Q E hr h => ?_)
  · obtain ⟨F, v, lv, hv, wb, low, high, rfl, _⟩ := h
    rfl
  · obtain ⟨F, v, lv, hv, wb, low, high, rfl, e, hw, ok, hl, hh, bn, cap, q⟩ := h
    refine ⟨_, (pss_cons (ps_par3 (i := 3) (j := 4) (l := 5) rfl sc_tables_of.nd rfl rfl rfl (by decide) (by decide) (by decide) rfl rfl rfl (pa_cons (pe_k c_nears_of hr (by decide) (by rfl) (pa_cons (pv 0) pa_nil)) (pa_cons (pe_lst pa_nil) (pa_cons (pe_dispT (hu1 hr) (pe_tup pa_nil) pe_int) pa_nil))) (by rfl))
      (pss_cons (ps_set (i := 6) sc_tables_of.nd rfl (.inl rfl) (pe_lst pa_nil))
      (pss_cons (ps_for PassesOwn.never rfl (pi_range1 (by rfl) B.range (pa_cons (pe_ix (ix_tup' K) (pv 0) pe_int (fun _ _ => rfl)) pa_nil)) (pg_name (i := 7) sc_tables_of.nd rfl (.inl rfl))
       ((pss_cons (ps_par (i := 8) (j := 9) rfl sc_tables_of.nd rfl rfl (by decide) rfl rfl (pa_cons (pe_k c_kept_at hr (by decide) (by rfl) (pa_cons (pv 3) (pa_cons (pv 7) pa_nil))) (pa_cons pe_dnewT pa_nil)) (by rfl))
       (pss_cons (ps_lock (ps_for PassesOwn.never rfl (pi_itemsT (pv 5)) (pg_tup' (n := 2) K rfl (pgs_cons (pg_name (i := 10) sc_tables_of.nd rfl (.inl rfl)) (pgs_cons (pg_name (i := 11) sc_tables_of.nd rfl (.inl rfl)) pgs_nil)))
        ((pss_cons (ps_set (i := 12) sc_tables_of.nd rfl (.inr rfl) (pe_dictZip rfl (by rfl) B.dict_ (by rfl) B.zip (pa_cons (pv 6) (pa_cons (pv 10) pa_nil))))
        (pss_one (ps_for PassesOwn.never rfl (pi_list' K (pe_k c_choices_at hr (by decide) (by rfl) (pa_cons (pv 3) (pa_cons (pv 7) (pa_cons (pv 12) (pa_cons (pv 1) (pa_cons (pv 2) pa_nil))))))) (pg_name (i := 13) sc_tables_of.nd rfl (.inl rfl))
         ((pss_cons (ps_dput (hu1 hr) (pv 12) (pv 7) (pv 13) rfl)
         (pss_cons (ps_set (i := 14) sc_tables_of.nd rfl (.inl rfl) (pe_callTy (call_tuple' K) (by rfl) B.tuple_ (by decide +kernel) (pa_cons (pe_lc (own := [("one", 15)]) rfl sc_tables_of.nd (pi_list' K (pv 8)) (blkOk_by (N := ["web", "low", "high", "nears", "found", "now", "ahead", "field", "keep", "later", "told", "many", "here", "height", "key", "one"]) (sc := defScope (top 24)) (by decide +kernel)) (fun _ _ _ _ _ => (pg_name (i := 15) sc_tables_of.nd rfl (.inl rfl))) (fun _ _ _ _ _ => pts_nil) (fun _ _ _ _ _ => (pe_dget (hu1 hr) (pv 12) (pv 15) (fun _ _ => rfl)))) pa_nil)))
         (pss_one (ps_dput (hu1 hr) (pv 9) (pv 14) (pe_op op_add (pe_dget2 (hu1 hr) (pv 9) (pv 14) pe_int ⟨rfl, rfl, rfl, rfl⟩) (pv 11)) rfl)))))))))))
       (pss_cons (ps_expr (pe_bm' K PySem.F.plainAttrs_list PySem.F.slot_list_append PySem.F.type_list_append mt_append (pv 4) (pa_cons (pv 9) pa_nil)))
       (pss_one (ps_par (i := 5) (j := 6) rfl sc_tables_of.nd rfl rfl (by decide) rfl rfl (pa_cons (pv 9) (pa_cons (pv 8) pa_nil)) (by rfl))))))))
      (pss_one (ps_ret (pv 4)))))), ?_⟩
    have h9 := ok.nine
    have hlo := ok.form.lo
    refine q_par3 (p_cons (p_call (p_cons (p_var rfl (p_nil ⟨F, v, wb, rfl, e, hw, ok.form, fun ns nv G1 H1 hN g1 rn => ?_⟩)))))
    refine p_cons ⟨Nat.zero_le _, fun Lf nLf => ?_⟩
    refine p_cons fun pd npd => ⟨Nat.zero_le _, fun pt npt => ?_⟩
    have n1 : pd ≠ Lf := ne_cell upd_same npd
    have n2 : pt ≠ pd := ne_cell upd_same npt
    have n3 : pt ≠ Lf := ne_cell (keep_upd upd_same n1) npt
    refine p_c ⟨keep_upd upd_same n2, [], pt, rfl, upd_same, p_nil ⟨_, _, _, rfl, ?_⟩⟩
    have cap1 := cap ns hN
    -- the heap behind the first line
    have gA : Grow F H G1 (upd (upd (upd (upd H1 Lf (.lst [])) pd (.dT [])) pt (.tup [])) pd (.dT [([], .int 1)])) := by
      have a1 := g1.ex (Ex.new (o := .lst []) nLf)
      have a2 := a1.ex (Ex.new (o := .dT []) npd)
      have a3 := a2.ex (Ex.new (o := .tup []) npt)
      exact a3.wr (a1.free npd).2 (a1.free npd).1
    have fLf := (g1.free nLf).2
    have HLf := (g1.free nLf).1
    have fpd := ((g1.ex (Ex.new (o := .lst []) nLf)).free npd).2
    have Hpd := ((g1.ex (Ex.new (o := .lst []) nLf)).free npd).1
    have cLf : (upd (upd (upd (upd H1 Lf (.lst [])) pd (.dT [])) pt (.tup [])) pd (.dT [([], .int 1)])) Lf = some (.lst []) := keep_upd (keep_upd (keep_upd upd_same n1) n3) n1
    have cpd : (upd (upd (upd (upd H1 Lf (.lst [])) pd (.dT [])) pt (.tup [])) pd (.dT [([], .int 1)])) pd = some (.dT (tV [([], [[]])])) := upd_same
    generalize (upd (upd (upd (upd H1 Lf (.lst [])) pd (.dT [])) pt (.tup [])) pd (.dT [([], .int 1)])) = HA at gA cLf cpd ⊢
    refine q_set (F := G1) (R := rLst K rNat) (P := fun ys => ys = []) (EvN.toR (K := K) evn_nil) gA.sub fun ys av G2 HB hy gB ra => ?_
    subst hy
    refine q_for_rng (F := F) (ev_nat (web0 (Ex.refl F) hw rfl)) (by omega) (e.trans (gA.act.trans gB.act)) (fun i σ' H' => ∃ (y7 y8 y9 y10 y11 y12 y13 y14 y15 : Option V) (G : Hp) (pd : Addr) (ws : List V) (av : V) (tb : Tb),
        σ' = [some v, some lv, some hv, some nv, some (.ref Lf), some (.ref pd), some av, y7, y8, y9, y10, y11, y12, y13, y14, y15] ∧ Ex G1 G ∧ Grow F H G H' ∧ G Lf = none ∧ G pd = none ∧ pd ≠ Lf ∧ H pd = none ∧ H' Lf = some (.lst ws) ∧ ws.length = i ∧ (0 < i → ∃ ws', ws = ws' ++ [.ref pd]) ∧ rLst K rNat G av (ahd ns i) ∧ H' pd = some (.dT (tV tb)) ∧ Rep (keyF ns i) tb (parts ns low high i))
      (fun HC xC => ?_) (fun i σ' H' hi ⟨y7, y8, y9, y10, y11, y12, y13, y14, y15, G, pd, ws, av, tb, hσ, xg, g, gLf, gpd, nd, Hpd, hLf, hws, hlast, rav, hpd, hrep⟩ => ?_) (fun σ' H' ⟨y7, y8, y9, y10, y11, y12, y13, y14, y15, G, pd, ws, av, tb, hσ, xg, g, gLf, gpd, nd, Hpd, hLf, hws, hlast, rav, hpd, hrep⟩ => ?_)
    · have gC := (gA.trans gB).ex xC
      exact ⟨_, _, _, _, _, _, _, _, _, G2, pd, [], av, [([], [[]])], rfl, gB.fz, gC, gB.gone fLf cLf, gB.gone fpd cpd, n1, Hpd, xC _ _ (gB.act _ _ cLf), rfl, fun z => absurd z (Nat.lt_irrefl 0), ra, xC _ _ (gB.act _ _ cpd), ⟨List.Perm.refl _, fun e he => by
        rw [List.mem_singleton] at he
        subst he
        exact ⟨by simp, fun p _ => rfl⟩, List.pairwise_singleton _ _⟩⟩
    · subst hσ
      have hN1 := hN.len
      refine g_name ?_
      -- keep, later = kept_at(nears, field), {}
      refine q_par (p_cons (p_call (p_cons (p_var rfl (p_cons (p_var rfl (p_nil ⟨G, nv, ns, i, rfl, g.sub, Mono.mono xg rn, by omega, by omega, fun kv G2' H2 g2 rk => ?_⟩)))))))
      refine p_cons fun pl npl => p_nil ⟨_, _, rfl, ?_⟩
      have gB2 : Grow F H G2' (upd H2 pl (.dT [])) := (g.trans g2).ex (Ex.new npl)
      have g2Lf := g2.gone gLf hLf
      have g2pd := g2.gone gpd hpd
      have g2pl := ((g.trans g2).free npl).2
      have bLf : (upd H2 pl (.dT [])) Lf = some (.lst ws) := keep_upd (g2.act _ _ hLf) (ne_cell (g2.act _ _ hLf) npl)
      have bpd : (upd H2 pl (.dT [])) pd = some (.dT (tV tb)) := keep_upd (g2.act _ _ hpd) (ne_cell (g2.act _ _ hpd) npl)
      have nlL : pl ≠ Lf := ne_cell (g2.act _ _ hLf) npl
      have nlp : pl ≠ pd := ne_cell (g2.act _ _ hpd) npl
      have bpl : (upd H2 pl (.dT [])) pl = some (.dT (tV [])) := upd_same
      have Hpl := ((g.trans g2).free npl).1
      generalize (upd H2 pl (.dT [])) = H3 at gB2 bLf bpd bpl ⊢
      have rav2 := Mono.mono g2.fz rav
      -- for told, many in now.items()
      refine q_seq ⟨pd, .dT (tV tb), bpd, True.intro, fun od => ?_⟩
      refine ⟨.ref pd, rfl, pd, od, tV tb, rfl, upd_same, ?_⟩
      refine for_itemsT (fun k σ' H' => ∃ (y10 y11 y12 y13 y14 y15 : Option V) (G3 : Hp) (tl : Tb),
          σ' = [some v, some lv, some hv, some nv, some (.ref Lf), some (.ref pd), some av, some (.int (i : Int)), some kv, some (.ref pl), y10, y11, y12, y13, y14, y15] ∧ Ex G2' G3 ∧ Grow F H G3 H' ∧ G3 Lf = none ∧ G3 pd = none ∧ G3 pl = none ∧
          H' Lf = some (.lst ws) ∧ H' pd = some (.frz od (.dT (tV tb))) ∧ H' pl = some (.dT (tV tl)) ∧ Rep (keyF ns (i + 1)) tl (((tb.take k).flatMap (·.2)).flatMap (stepP ns low high i)))
        ⟨_, _, _, _, _, _, G2', [], rfl, Ex.refl _, gB2.wr g2pd Hpd, g2Lf, g2pd, g2pl, keep_upd bLf nd, upd_same, keep_upd bpl (fun z => nlp z.symm), by rw [List.take_zero]; exact Rep.nil _⟩
        (fun k σ' H' ⟨_, _, _, _, _, _, _, _, _, _, _, _, _, _, _, z, _⟩ => z)
        (fun k key0 val q0 T σ' H' hk ⟨y10, y11, y12, y13, y14, y15, G3, tl, hσ, xg3, g3, g3Lf, g3pd, g3pl, h3Lf, h3pd, h3pl, hrep3⟩ hq0 nT => ?_)
        (fun σ' H' ⟨y10, y11, y12, y13, y14, y15, G3, tl, hσ, xg3, g3, g3Lf, g3pd, g3pl, h3Lf, h3pd, h3pl, hrep3⟩ => ?_)
      · subst hσ
        obtain ⟨grp, k0, hent, rfl, rfl⟩ : ∃ (grp : List (List Int)) (k0 : List Int), tb[k]? = some (k0, grp) ∧ key0 = tK k0 ∧ val = .int (grp.length : Int) := by
          unfold tV at hk
          rw [List.getElem?_map] at hk
          cases hx : tb[k]? with
          | none => rw [hx] at hk; cases hk
          | some x =>
            rw [hx] at hk
            have e1 := Option.some.inj hk
            exact ⟨x.2, x.1, rfl, (congrArg Prod.fst e1).symm, (congrArg Prod.snd e1).symm⟩
        have hmem := List.mem_of_getElem? hent
        obtain ⟨hgne, hgk⟩ := hrep.ne _ hmem
        have hgp : ∀ p ∈ grp, p ∈ parts ns low high i := fun p hp => hrep.pm.mem_iff.mp (List.mem_flatMap.mpr ⟨_, hmem, hp⟩)
        obtain ⟨p0, hp0⟩ := List.exists_mem_of_ne_nil _ hgne
        have hk0 : k0 = (ahd ns i).map fun u => p0.getD u 0 := (hgk p0 hp0).symm
        have same : ∀ p ∈ grp, ∀ u ∈ ahd ns i, p.getD u 0 = p0.getD u 0 := fun p hp u hu => by
          have e1 : keyF ns i p = keyF ns i p0 := (hgk p hp).trans (hgk p0 hp0).symm
          exact List.map_inj_left.mp e1 u hu
        refine g_pair (SqT.of upd_same) ?_
        have gC := g3.ex (Ex.new (o := .tup [.ref q0, .int (grp.length : Int)]) nT)
        have cLf := keep_upd (u := .tup [.ref q0, .int (grp.length : Int)]) h3Lf (ne_cell h3Lf nT)
        have cpd := keep_upd (u := .tup [.ref q0, .int (grp.length : Int)]) h3pd (ne_cell h3pd nT)
        have cpl := keep_upd (u := .tup [.ref q0, .int (grp.length : Int)]) h3pl (ne_cell h3pl nT)
        have cq0 := keep_upd (u := .tup [.ref q0, .int (grp.length : Int)]) hq0 (ne_cell hq0 nT)
        generalize (upd H' T (.tup [.ref q0, .int (grp.length : Int)])) = H4 at gC cLf cpd cpl cq0 ⊢
        -- here = dict(zip(ahead, told))
        obtain ⟨pa, vs, rfl, hpa, rpa⟩ := rav2
        have evs := nats_of rpa
        rw [map_nV] at evs
        subst evs
        have hk0l : k0.length = (ahd ns i).length := by rw [hk0, List.length_map]
        have hahl : (ahd ns i).length ≤ 60 := by
          have := ahd_len ns i
          omega
        refine q_raw (p_dz (p_cons (p_var rfl (p_cons (p_var rfl (p_nil ⟨pa, q0, (ahd ns i).map fun (u : Nat) => (u : Int), k0.map V.int, rfl, ex_l (xg3.trans gC.sub) hpa, SqT.of (by rw [cq0, tK_kV]), by rw [List.length_map, List.length_map, hk0l], by rw [List.length_map]; omega, fun ph nph => ?_⟩))))))
        have gD := gC.ex (Ex.new (o := .dK (mergeK [] (zipK ((ahd ns i).map fun (u : Nat) => (u : Int)) (k0.map V.int)))) nph)
        have dLf := keep_upd (u := .dK (mergeK [] (zipK ((ahd ns i).map fun (u : Nat) => (u : Int)) (k0.map V.int)))) cLf (ne_cell cLf nph)
        have dpd := keep_upd (u := .dK (mergeK [] (zipK ((ahd ns i).map fun (u : Nat) => (u : Int)) (k0.map V.int)))) cpd (ne_cell cpd nph)
        have dpl := keep_upd (u := .dK (mergeK [] (zipK ((ahd ns i).map fun (u : Nat) => (u : Int)) (k0.map V.int)))) cpl (ne_cell cpl nph)
        have g3ph := (gC.free nph).2
        have Hph := (gC.free nph).1
        have dph : (upd H4 ph (.dK (mergeK [] (zipK ((ahd ns i).map fun (u : Nat) => (u : Int)) (k0.map V.int))))) ph = some (.dK (mergeK [] (zipK ((ahd ns i).map fun (u : Nat) => (u : Int)) (k0.map V.int)))) := upd_same
        have nhl : ph ≠ pl := ne_cell cpl nph
        have nhL : ph ≠ Lf := ne_cell cLf nph
        have nhp : ph ≠ pd := ne_cell cpd nph
        have hok : HereOK (ahd ns i) i (ahd ns i).length p0 (mergeK [] (zipK ((ahd ns i).map fun (u : Nat) => (u : Int)) (k0.map V.int))) := by
          rw [hk0]
          exact here_start (ahd_nodup ns i) i p0
        generalize (mergeK [] (zipK ((ahd ns i).map fun (u : Nat) => (u : Int)) (k0.map V.int))) = kvh0 at gD dLf dpd dpl dph hok ⊢
        generalize (upd H4 ph (.dK kvh0)) = H5 at gD dLf dpd dpl dph ⊢
        -- for height in choices_at(..)
        have hni : ns[i]? = some (ns.getD i []) := get_getD [] (by omega)
        have hli : low[i]? = some (low.getD i 0) := get_getD 0 (by rw [bn.l1]; exact hi)
        have hhi : high[i]? = some (high.getD i 0) := get_getD 0 (by rw [bn.l2]; exact hi)
        have b1 := bn.b1 _ (List.mem_of_getElem? hli)
        have b2 := bn.b2 _ (List.mem_of_getElem? hhi)
        have near : ∀ u ∈ ns.getD i [], u < i → u ∈ ahd ns i := fun u hu hlt => near_kept hN ok.form hi ((hN.mem i _ hni u).mp hu) hlt
        have eD : Ex G1 H5 := xg.trans (g2.fz.trans (xg3.trans gD.sub))
        refine p_for (p_iL (p_call (p_cons (p_var rfl (p_cons (p_var rfl (p_cons (p_var rfl (p_cons (p_var rfl (p_cons (p_var rfl (p_nil ⟨nv, lv, hv, ph, i, ns, ns.getD i [], kvh0, fun u => p0.getD u 0, low, high, low.getD i 0, high.getD i 0, rfl, Mono.mono eD rn, hni, dph,
          fun u hu hlt => hok.val u (near u hu hlt) (by omega), Mono.mono (g1.fz.trans eD) hl, Mono.mono (g1.fz.trans eD) hh, hli, hhi, ⟨b1.1, b1.2, b2.1, b2.2⟩, fun p H6 np x6 hp6 => ?_⟩)))))))))))))
        have hch : ∀ p ∈ grp, choM i (fun u => p.getD u 0) (ns.getD i []) (low.getD i 0) (high.getD i 0) = choM i (fun u => p0.getD u 0) (ns.getD i []) (low.getD i 0) (high.getD i 0) := fun p hp => choM_congr fun u hu hlt => same p hp u (near u hu hlt)
        have gpm := group_perm (ns := ns) (low := low) (high := high) (f := i) (g := grp) hch
        generalize choM i (fun u => p0.getD u 0) (ns.getD i []) (low.getD i 0) (high.getD i 0) = ch at hp6 gpm
        have htk : ((tb.take (k + 1)).flatMap (·.2)).flatMap (stepP ns low high i) = ((tb.take k).flatMap (·.2)).flatMap (stepP ns low high i) ++ grp.flatMap (stepP ns low high i) := by
          rw [List.take_add_one, hent, List.flatMap_append, List.flatMap_append]
          show _ ++ ((grp ++ []).flatMap (stepP ns low high i)) = _
          rw [List.append_nil]
        have htot : (((tb.take (k + 1)).flatMap (fun e : List Int × List (List Int) => e.2)).flatMap (stepP ns low high i)).length ≤ (parts ns low high (i + 1)).length := by
          have e1 := (flatMap_perm (stepP ns low high i) hrep.pm).length_eq
          have e2 : (parts ns low high (i + 1)).length = ((tb.flatMap (·.2)).flatMap (stepP ns low high i)).length := e1.symm
          rw [e2, List.flatMap_assoc, List.flatMap_assoc]
          exact take_flat_len _ tb (k + 1)
        have nph6 : p ≠ ph := ne_cell dph np
        have npl6 : p ≠ pl := ne_cell dpl np
        refine ⟨p, rfl, ⟨_, SqL.of hp6⟩, for_list (xs := ch.map V.int) (fun j σ' H' => ∃ (y13 y14 y15 : Option V) (G4 : Hp) (tl2 : Tb) (kvh : List (Key × V)),
            σ' = [some v, some lv, some hv, some nv, some (.ref Lf), some (.ref pd), some (.ref pa), some (.int (i : Int)), some kv, some (.ref pl), some (.ref q0), some (.int (grp.length : Int)), some (.ref ph), y13, y14, y15] ∧ Ex G3 G4 ∧ Grow F H G4 H' ∧ G4 Lf = none ∧ G4 pd = none ∧ G4 pl = none ∧ G4 ph = none ∧
            H' Lf = some (.lst ws) ∧ H' pd = some (.frz od (.dT (tV tb))) ∧ H' p = some (.lst (ch.map V.int)) ∧ H' ph = some (.dK kvh) ∧ HereOK (ahd ns i) i (ahd ns i).length p0 kvh ∧ H' pl = some (.dT (tV tl2)) ∧
            Rep (keyF ns (i + 1)) tl2 (((tb.take k).flatMap (·.2)).flatMap (stepP ns low high i) ++ (ch.take j).flatMap fun y => grp.map fun p => p ++ [y]))
          ⟨_, _, _, G3, tl, kvh0, rfl, Ex.refl _, gD.ex x6, g3Lf, g3pd, g3pl, g3ph, x6 _ _ dLf, x6 _ _ dpd, hp6, x6 _ _ dph, hok, x6 _ _ dpl, by rw [List.take_zero]; show Rep _ _ (_ ++ []); rw [List.append_nil]; exact hrep3⟩
          (fun j σ' H' _ ⟨_, _, _, _, _, _, _, _, _, _, _, _, _, _, _, z, _⟩ => SqL.of z)
          (fun j w' σ' H' hw' ⟨y13, y14, y15, G4, tl2, kvh, hσ, xg4, g4, g4Lf, g4pd, g4pl, g4ph, h4Lf, h4pd, h4p, h4ph, hok4, h4pl, hrep4⟩ => ?_)
          (fun σ' H' ⟨y13, y14, y15, G4, tl2, kvh, hσ, xg4, g4, g4Lf, g4pd, g4pl, g4ph, h4Lf, h4pd, h4p, h4ph, hok4, h4pl, hrep4⟩ => ?_)⟩
        · subst hσ
          obtain ⟨y, hy, rfl⟩ : ∃ y, ch[j]? = some y ∧ w' = .int y := by
            rw [List.getElem?_map] at hw'
            cases hx : ch[j]? with
            | none => rw [hx] at hw'; cases hw'
            | some y => rw [hx] at hw'; exact ⟨y, rfl, (Option.some.inj hw').symm⟩
          refine g_name ?_
          have hsz4 : kvh.length < sizeLine := by
            rw [sizeLine_eq]
            rcases hok4.len with l | ⟨l, _⟩
            · omega
            · omega
          refine q_dput (p_var rfl (p_var rfl (p_var rfl ⟨ph, _, rfl, DPut.k (k := .inl (i : Int)) h4ph hsz4, ?_⟩)))
          have hok5 := hok4.put y
          have v5 : valV (putK kvh (.inl (i : Int)) (.int y)) (.inl (i : Int)) = some (.int y) := by rw [valV_put, if_pos rfl]
          generalize (putK kvh (.inl (i : Int)) (.int y)) = kv5 at hok5 v5 ⊢
          have g5 := g4.wr (o := .dK kv5) g4ph Hph
          have eLf := keep_upd (u := .dK kv5) h4Lf nhL
          have epd := keep_upd (u := .dK kv5) h4pd nhp
          have ep := keep_upd (u := .dK kv5) h4p (fun z => nph6 z.symm)
          have epl := keep_upd (u := .dK kv5) h4pl nhl
          have eph : (upd H' ph (.dK kv5)) ph = some (.dK kv5) := upd_same
          generalize (upd H' ph (.dK kv5)) = H7 at g5 eLf epd ep epl eph ⊢
          have hval : ∀ u ∈ keptM ns i, valV kv5 (.inl (u : Int)) = some (.int (if u = i then y else p0.getD u 0)) := fun u hu => by
            rcases kept_next hN hi hu with z | ⟨z, z2⟩
            · rw [if_pos z, z]
              exact v5
            · rw [if_neg (by omega)]
              exact hok5.val u z2 (by omega)
          -- key = tuple([here[one] for one in keep])
          refine q_raw (p_cb (p_cons ?_))
          refine (evn_lcL (K := K) (R := rNat) (S := rInt) (F := H7) (PL := fun xs => xs = keptM ns i) (j := 15) (fun _ => true) (fun u z => z = if u = i then y else p0.getD u 0) (evr_var rfl (Mono.mono (xg3.trans (xg4.trans g5.sub)) rk)) (fun xs h => by
              have h1 := List.length_filter_le (behind ns i) (List.range (i + 1))
              rw [List.length_range] at h1
              have h2 : xs.length = ((List.range (i + 1)).filter (behind ns i)).length := congrArg List.length h
              omega) (fun _ => rfl) (fun _ _ _ _ _ _ _ _ => et_yes)
            (fun xs u a G6 hxs hu _ eg6 ra => by
              cases (show a = .int (u : Int) from ra)
              subst hxs
              exact evr_int (ev_dget (k := .inl (u : Int)) (ev_var rfl) (ev_var rfl) (eg6 _ _ eph) (hval u hu)))) H7 (Ex.refl H7) _ fun xs p2 vs2 G5 H8 hx8 g8 n81 n82 h8 r8 => p_nil ⟨p2, vs2, rfl, .inl ⟨SqL.of h8, fun l nl => ?_⟩⟩
          obtain ⟨zs, rfl, mb⟩ := hx8
          have ekk := made_map (fn := fun u : Nat => if u = i then y else p0.getD u 0) mb
          rw [List.filter_eq_self.mpr fun _ _ => rfl] at ekk
          have evk := ints_of r8
          rw [ekk] at evk
          subst evk
          have x9 : Ex H7 (upd H8 l (.tup (((keptM ns i).map fun u => if u = i then y else p0.getD u 0).map V.int))) := g8.act.trans (Ex.new nl)
          have g9 := g5.ex x9
          have f9l : (upd H8 l (.tup (((keptM ns i).map fun u => if u = i then y else p0.getD u 0).map V.int))) l = some (.tup ((tK ((keptM ns i).map fun u => if u = i then y else p0.getD u 0)).map kV)) := by
            rw [tK_kV]
            exact upd_same
          have f9Lf := x9 _ _ eLf
          have f9pd := x9 _ _ epd
          have f9p := x9 _ _ ep
          have f9pl := x9 _ _ epl
          have f9ph := x9 _ _ eph
          generalize (upd H8 l (.tup (((keptM ns i).map fun u => if u = i then y else p0.getD u 0).map V.int))) = H9 at g9 f9l f9Lf f9pd f9p f9pl f9ph ⊢
          have hlen2 : tl2.length < 16000000 := by
            refine rep_len hrep4 ?_ (cap1 i hi)
            refine Nat.le_trans ?_ htot
            rw [htk, List.length_append, List.length_append, ← gpm.length_eq]
            have := take_flat_len (fun y => grp.map fun p => p ++ [y]) ch j
            omega
          have hkk : ∀ p ∈ grp.map (fun p => p ++ [y]), keyF ns (i + 1) p = (keptM ns i).map fun u => if u = i then y else p0.getD u 0 := fun p hp => by
            obtain ⟨p', hp', rfl⟩ := List.mem_map.mp hp
            have hpl' := parts_len i p' (hgp p' hp')
            refine List.map_congr_left fun u hu => ?_
            rcases kept_next hN hi hu with z | ⟨z, z2⟩
            · rw [if_pos z, z, List.getD_eq_getElem?_getD, List.getElem?_append_right (by omega), hpl', Nat.sub_self]
              rfl
            · rw [if_neg (by omega), ← same p' hp' u z2, List.getD_eq_getElem?_getD, List.getD_eq_getElem?_getD, List.getElem?_append_left (by omega)]
          have hput := put_tV (tb := tl2) hrep4.nd ((keptM ns i).map fun u => if u = i then y else p0.getD u 0) (grp.map fun p => p ++ [y])
          rw [List.length_map] at hput
          have hrep5 := hrep4.put (k := (keptM ns i).map fun u => if u = i then y else p0.getD u 0) (g := grp.map fun p => p ++ [y]) (fun z => hgne (List.map_eq_nil_iff.mp z)) hkk
          have eg := get_tV tl2 ((keptM ns i).map fun u => if u = i then y else p0.getD u 0)
          generalize ((keptM ns i).map fun u => if u = i then y else p0.getD u 0) = kk at f9l hput hrep5 eg
          refine p_dput (p_op (p_dget2 (p_var rfl ⟨pl, rfl, .inr ⟨_, .inl f9pl⟩, p_var rfl (p_c ⟨_, DGet.t f9pl f9l, p_var rfl ⟨_, _, eg, rfl, p_var rfl (p_var rfl ⟨pl, _, rfl, DPut.t f9pl f9l (by
            unfold tV
            rw [List.length_map, sizeLine_eq]
            omega), ?_⟩)⟩⟩)⟩)))
          rw [hput]
          refine ⟨_, _, _, G4, putG tl2 kk (grp.map fun p => p ++ [y]), kv5, rfl, xg4, g9.wr g4pl Hpl, g4Lf, g4pd, g4pl, g4ph, keep_upd f9Lf nlL, keep_upd f9pd nlp, keep_upd f9p (fun z => npl6 z.symm), keep_upd f9ph (fun z => nhl z.symm), hok5, upd_same, hrep5.perm ?_⟩
          have etk : ((ch.take (j + 1)).flatMap fun y => grp.map fun p => p ++ [y]) = ((ch.take j).flatMap fun y => grp.map fun p => p ++ [y]) ++ grp.map fun p => p ++ [y] := by
            rw [List.take_add_one, hy, List.flatMap_append]
            show _ ++ ((grp.map fun p => p ++ [y]) ++ []) = _
            rw [List.append_nil]
          rw [etk, ← List.append_assoc]
        · subst hσ
          rw [List.length_map, List.take_length] at hrep4
          refine ⟨_, _, _, _, _, _, G4, tl2, rfl, xg3.trans xg4, g4, g4Lf, g4pd, g4pl, h4Lf, h4pd, h4pl, ?_⟩
          rw [htk]
          exact hrep4.perm (List.Perm.append_left _ gpm)
      · subst hσ
        have htl : (tV tb).length = tb.length := by unfold tV; rw [List.length_map]
        rw [htl, List.take_length] at hrep3
        refine ⟨h3pd, ?_⟩
        have g5 : Grow F H G3 (upd H' pd (.dT (tV tb))) := g3.wr g3pd Hpd
        refine q_appendV (l := Lf) (ws := ws) (v := .ref pl) (keep_upd h3Lf nd) (ev_var rfl) (ev_var rfl) (by omega) fun H5 x5 => ?_
        have g6 := (g5.ex x5).wr (o := .lst (ws ++ [.ref pl])) g3Lf HLf
        refine s_par (p_cons (p_var rfl (p_cons (p_var rfl (p_nil ⟨_, _, rfl, ?_⟩)))))
        refine ⟨_, _, _, _, _, _, _, _, _, G3, pl, ws ++ [.ref pl], kv, tl, rfl, (xg.trans g2.fz).trans xg3, g6, g3Lf, g3pl, nlL, Hpl, upd_same, by rw [List.length_append, hws]; rfl, fun _ => ⟨ws, rfl⟩, ?_, ?_, hrep3.perm (flatMap_perm _ hrep.pm)⟩
        · have hah : ahd ns (i + 1) = keptM ns i := rfl
          rw [hah]
          exact Mono.mono xg3 rk
        · exact keep_upd (x5 _ _ (keep_upd h3pl (fun z => nlp z.symm))) (fun z => nlL z.symm)
    · subst hσ
      obtain ⟨ws', rfl⟩ := hlast (by omega)
      exact s_retV (F := H') (v := .ref Lf) (ev_var rfl) (Ex.refl H') fun H3 x3 => q ns Lf ws' pd tb H3 hN hrep (g.act.trans x3) (x3 _ _ hLf) (x3 _ _ hpd)
end
end Tr
namespace Tr
open PySem PySem.Spec PyProof.Rows L2 Evl RZ
section
variable {P : Program} {w : World} {K : PySem.W.Frag} {mg : Str → Option Value} {base : Heap}
def spNumber (K : PySem.W.Frag) : Sp := fun vs H Q _ => ∃ (F : Hp) (v lv hv : V) (wb : Web) (low high : List Int), vs = [v, lv, hv] ∧ Ex F H ∧ rWeb K F v wb ∧ WebOK wb ∧ rTup K rInt F lv low ∧ rTup K rInt F hv high ∧ Bnds wb.1 low high ∧ Cap wb low high ∧
  ∀ ns H2, NearsOK wb ns → Ex H H2 → Q (.int ((parts ns low high wb.1).length : Int)) H2
theorem p_sumV {td : TE} {σ : L2.St} {H : Hp} {Q : VK} (h : td σ H fun x H1 => ∃ (a : Addr) (kvs : List (List Key × V)) (is : List Int), x = V.ref a ∧ Rd H1 a (.dT kvs) ∧ kvs.map (·.2) = is.map V.int ∧ Q (.int is.sum) H1) : tSumVals td σ H Q := h
theorem s_retP {te : TE} {σ : L2.St} {H : Hp} {n b c : L2.St → Hp → Prop} {r : VK} (h : te σ H r) : tRet te ⟨n, r, b, c⟩ σ H := h
theorem atI_last {T : Type} (l : List T) (x : T) : atI (l ++ [x]) (-1) = some x := by
  unfold atI ixN
  rw [if_neg (by decide), List.length_append, List.length_singleton, if_pos (by omega)]
  have e : ((-1 : Int) + ((l.length + 1 : Nat) : Int)).toNat = l.length := by omega
  rw [e]
  show (l ++ [x])[l.length]? = some x
  rw [List.getElem?_append_right (Nat.le_refl _), Nat.sub_self]
  rfl
theorem sc_number_within : FnScope ["web", "low", "high"] ["web", "low", "high"] (defScope (top 25)) := ⟨rfl, rfl, rfl, by decide +kernel, rfl, by decide +kernel, by decide +kernel⟩
theorem c_number_within (D : Def K mg "number_within" (top 25) ["web", "low", "high"]) (B : Bi mg) (c_tables_of : Cal P w K mg base 2 "tables_of" (spTables K)) : Cal P w K mg base 3 "number_within" (spNumber K) := by
  refine D.cal sc_number_within (fun vs H Q E h => ?_) (fun fa cdv A outer s H vs Q E hr h => ?_)
  · obtain ⟨F, v, lv, hv, wb, low, high, rfl, _⟩ := h
    rfl
  · obtain ⟨F, v, lv, hv, wb, low, high, rfl, e, hw, ok, hl, hh, bn, cap, q⟩ := h
    refine ⟨_, (pss_one (ps_ret (pe_sumVals rfl (by rfl) B.sum (pe_ix (ix_list' K) (pe_k c_tables_of hr (by decide) (by rfl) (pa_cons (pv 0) (pa_cons (pv 1) (pa_cons (pv 2) pa_nil)))) (pe_un un_neg pe_int) (fun _ _ => rfl))))), ?_⟩
    refine s_retP (p_sumV (p_op (p_call (p_cons (p_var rfl (p_cons (p_var rfl (p_cons (p_var rfl (p_nil ⟨F, v, lv, hv, wb, low, high, rfl, e, hw, ok, hl, hh, bn, cap, fun ns Lf ws pd tb H2 hN hrep x2 hLf hpd => ?_⟩))))))))))
    refine p_un (p_c ⟨1, rfl, ?_⟩)
    refine ⟨Lf, ws ++ [.ref pd], -1, .ref pd, rfl, rfl, SqL.of hLf, atI_last _ _, pd, tV tb, sumT tb, rfl, .inl hpd, vals_tV tb, ?_⟩
    rw [hrep.sum]
    exact q ns H2 hN x2
end
end Tr
namespace Tr
open PySem PySem.Spec PyProof.Rows L2 Evl RZ
/-! ### layings: the plain law -/
def okU (f : Nat) (here : Nat → Int) (nf : List Nat) (y : Int) : Prop := ∀ u ∈ nf, u < f → y = here u - 1 ∨ y = here u + 1
theorem okU_congr {f : Nat} {h1 h2 : Nat → Int} {nf : List Nat} {y : Int} (h : ∀ u ∈ nf, u < f → h1 u = h2 u) : okU f h1 nf y ↔ okU f h2 nf y := by
  unfold okU
  constructor
  · intro q u hu hlt
    rw [← h u hu hlt]
    exact q u hu hlt
  · intro q u hu hlt
    rw [h u hu hlt]
    exact q u hu hlt
theorem fold_spec {f : Nat} {here : Nat → Int} : ∀ (nf : List Nat) (s : Option (List Int)), (nf.foldl (chS f here) s = none ∧ s = none ∧ ∀ u ∈ nf, ¬ u < f) ∨
    ∃ l, nf.foldl (chS f here) s = some l ∧ ((s = none ∧ (∃ u ∈ nf, u < f) ∧ (∀ y, y ∈ l ↔ okU f here nf y) ∧ l.Nodup) ∨ ∃ l0, s = some l0 ∧ (∀ y, y ∈ l ↔ y ∈ l0 ∧ okU f here nf y) ∧ (l0.Nodup → l.Nodup))
  | [], none => .inl ⟨rfl, rfl, fun u h => by cases h⟩
  | [], some l => .inr ⟨l, rfl, .inr ⟨l, rfl, fun y => ⟨fun h => ⟨h, fun u hu => by cases hu⟩, fun h => h.1⟩, id⟩⟩
  | u :: nf, s => by
    rw [List.foldl_cons]
    have cons : ∀ y, okU f here (u :: nf) y ↔ ((u < f → y = here u - 1 ∨ y = here u + 1) ∧ okU f here nf y) := fun y => by
      constructor
      · exact fun h => ⟨h u (List.mem_cons_self ..), fun v hv => h v (List.mem_cons_of_mem _ hv)⟩
      · rintro ⟨h1, h2⟩ v hv
        rcases List.mem_cons.mp hv with z | z
        · rw [z]; exact h1
        · exact h2 v z
    by_cases hu : u < f
    · cases s with
      | none =>
        have e : chS f here none u = some [here u - 1, here u + 1] := by
          unfold chS
          rw [if_pos hu]
        rw [e]
        rcases fold_spec nf (some [here u - 1, here u + 1]) with ⟨_, z, _⟩ | ⟨l, hl, h⟩
        · cases z
        · refine .inr ⟨l, hl, .inl ⟨rfl, ⟨u, List.mem_cons_self .., hu⟩, ?_⟩⟩
          rcases h with ⟨z, _⟩ | ⟨l0, z, h1, h2⟩
          · cases z
          · cases z
            refine ⟨fun y => ?_, h2 ?_⟩
            · rw [h1, cons, List.mem_cons, List.mem_singleton]
              constructor
              · exact fun ⟨a, b⟩ => ⟨fun _ => a, b⟩
              · exact fun ⟨a, b⟩ => ⟨a hu, b⟩
            · rw [List.nodup_cons]
              refine ⟨fun z => ?_, List.pairwise_singleton _ _⟩
              rw [List.mem_singleton] at z
              omega
      | some m =>
        have e : chS f here (some m) u = some (m.filter fun y => [here u - 1, here u + 1].any fun z => z == y) := by
          unfold chS
          rw [if_pos hu]
        rw [e]
        rcases fold_spec nf (some (m.filter fun y => [here u - 1, here u + 1].any fun z => z == y)) with ⟨_, z, _⟩ | ⟨l, hl, h⟩
        · cases z
        · refine .inr ⟨l, hl, .inr ⟨m, rfl, ?_⟩⟩
          rcases h with ⟨z, _⟩ | ⟨l0, z, h1, h2⟩
          · cases z
          · cases z
            refine ⟨fun y => ?_, fun hm => h2 (List.Pairwise.filter _ hm)⟩
            rw [h1, cons, List.mem_filter]
            have hb : ([here u - 1, here u + 1].any fun z => z == y) = true ↔ (y = here u - 1 ∨ y = here u + 1) := by
              simp only [List.any_cons, List.any_nil, Bool.or_false, Bool.or_eq_true, beq_iff_eq]
              constructor
              · rintro (h | h)
                · exact .inl h.symm
                · exact .inr h.symm
              · rintro (h | h)
                · exact .inl h.symm
                · exact .inr h.symm
            rw [hb]
            constructor
            · exact fun ⟨⟨a, b⟩, c⟩ => ⟨a, fun _ => b, c⟩
            · exact fun ⟨a, b, c⟩ => ⟨⟨a, b hu⟩, c⟩
    · have e : chS f here s u = s := by
        unfold chS
        rw [if_neg hu]
      rw [e]
      have ok : ∀ y, okU f here (u :: nf) y ↔ okU f here nf y := fun y => by
        rw [cons]
        exact ⟨fun h => h.2, fun h => ⟨fun z => absurd z hu, h⟩⟩
      rcases fold_spec nf s with ⟨h1, h2, h3⟩ | ⟨l, hl, h⟩
      · refine .inl ⟨h1, h2, fun v hv => ?_⟩
        rcases List.mem_cons.mp hv with z | z
        · rw [z]; exact hu
        · exact h3 v z
      · refine .inr ⟨l, hl, ?_⟩
        rcases h with ⟨h1, ⟨v, hv, hv2⟩, h3, h4⟩ | ⟨l0, h1, h2, h3⟩
        · exact .inl ⟨h1, ⟨v, List.mem_cons_of_mem _ hv, hv2⟩, fun y => (h3 y).trans (ok y).symm, h4⟩
        · exact .inr ⟨l0, h1, fun y => by rw [h2, ok], h3⟩
theorem mem_rg2 {lo hi y : Int} : y ∈ rg2 lo hi ↔ lo ≤ y ∧ y < hi ∧ (y - lo) % 2 = 0 := by
  unfold rg2
  rw [List.mem_map]
  constructor
  · rintro ⟨i, hi', rfl⟩
    rw [List.mem_range] at hi'
    split at hi'
    · omega
    · omega
  · rintro ⟨h1, h2, h3⟩
    refine ⟨((y - lo) / 2).toNat, ?_, ?_⟩
    · rw [List.mem_range, if_pos (by omega)]
      omega
    · omega
theorem rg2_nodup (lo hi : Int) : (rg2 lo hi).Nodup := List.Pairwise.map _ (fun a b h z => h (by omega)) List.nodup_range
theorem mem_choM {f : Nat} {here : Nat → Int} {nf : List Nat} {lo hi y : Int} : y ∈ choM f here nf lo hi ↔ (lo ≤ y ∧ y ≤ hi) ∧ okU f here nf y ∧ ((∀ u ∈ nf, ¬ u < f) → (y - lo) % 2 = 0) := by
  unfold choM chL
  rw [List.mem_filter, Bool.and_eq_true, decide_eq_true_eq, decide_eq_true_eq]
  rcases fold_spec (f := f) (here := here) nf none with ⟨h1, _, h3⟩ | ⟨l, hl, h⟩
  · rw [h1]
    show y ∈ rg2 lo (hi + 1) ∧ _ ↔ _
    rw [mem_rg2]
    constructor
    · exact fun ⟨⟨a, b, c⟩, d⟩ => ⟨d, fun u hu hlt => absurd hlt (h3 u hu), fun _ => c⟩
    · exact fun ⟨a, b, c⟩ => ⟨⟨a.1, by omega, c h3⟩, a⟩
  · rw [hl]
    show y ∈ l ∧ _ ↔ _
    rcases h with ⟨_, ⟨v, hv, hv2⟩, h3, _⟩ | ⟨l0, z, _⟩
    · rw [h3]
      constructor
      · exact fun ⟨a, b⟩ => ⟨b, a, fun q => absurd hv2 (q v hv)⟩
      · exact fun ⟨a, b, _⟩ => ⟨b, a⟩
    · cases z
theorem choM_nodup (f : Nat) (here : Nat → Int) (nf : List Nat) (lo hi : Int) : (choM f here nf lo hi).Nodup := by
  unfold choM chL
  refine List.Pairwise.filter _ ?_
  rcases fold_spec (f := f) (here := here) nf none with ⟨h1, _, h3⟩ | ⟨l, hl, h⟩
  · rw [h1]
    exact rg2_nodup lo (hi + 1)
  · rw [hl]
    rcases h with ⟨_, _, _, h4⟩ | ⟨l0, z, _⟩
    · exact h4
    · cases z
theorem choM_len {f : Nat} {here : Nat → Int} {nf : List Nat} {lo hi : Int} {c : Nat} (h2 : 2 ≤ c) (hc : hi - lo < 2 * c) : (choM f here nf lo hi).length ≤ c := by
  unfold choM
  refine Nat.le_trans (List.length_filter_le _ _) ?_
  unfold chL
  rcases fold_spec (f := f) (here := here) nf none with ⟨h1, _, h3⟩ | ⟨l, hl, h⟩
  · rw [h1]
    unfold rg2
    show (List.map _ _).length ≤ c
    rw [List.length_map, List.length_range]
    split <;> omega
  · have := chS_len (s := none) (fun _ z => by cases z) l hl
    rw [hl]
    show l.length ≤ c
    omega
theorem parts_le {ns : List (List Nat)} {low high : List Int} {c : Nat} (h2 : 2 ≤ c) {n : Nat} (hb : ∀ i, i < n → high.getD i 0 - low.getD i 0 < 2 * c) : ∀ f, f ≤ n → (parts ns low high f).length ≤ c ^ f
  | 0, _ => Nat.le_refl _
  | f + 1, h => by
    have ih := parts_le (ns := ns) h2 hb f (by omega)
    have step : ∀ l : List (List Int), (l.flatMap (stepP ns low high f)).length ≤ c * l.length := fun l => by
      induction l with
      | nil => exact Nat.le_refl _
      | cons p r ihr =>
        rw [List.flatMap_cons, List.length_append, List.length_cons, Nat.mul_succ]
        have : (stepP ns low high f p).length ≤ c := by
          unfold stepP
          rw [List.length_map]
          exact choM_len h2 (hb f (by omega))
        omega
    have := step (parts ns low high f)
    rw [Nat.pow_succ, Nat.mul_comm]
    exact Nat.le_trans this (Nat.mul_le_mul_left c ih)
theorem getD_snoc_lt {p : List Int} {y : Int} {i : Nat} (h : i < p.length) : (p ++ [y]).getD i 0 = p.getD i 0 := by
  rw [List.getD_eq_getElem?_getD, List.getD_eq_getElem?_getD, List.getElem?_append_left h]
theorem getD_snoc_eq {p : List Int} {y : Int} : (p ++ [y]).getD p.length 0 = y := by
  rw [List.getD_eq_getElem?_getD, List.getElem?_append_right (Nat.le_refl _), Nat.sub_self]
  rfl
def fits (ns : List (List Nat)) (low high : List Int) (p : List Int) (i : Nat) : Prop := (low.getD i 0 ≤ p.getD i 0 ∧ p.getD i 0 ≤ high.getD i 0) ∧ okU i (fun u => p.getD u 0) (ns.getD i []) (p.getD i 0) ∧ ((∀ u ∈ ns.getD i [], ¬ u < i) → (p.getD i 0 - low.getD i 0) % 2 = 0)
theorem mem_parts {ns : List (List Nat)} {low high : List Int} : ∀ (f : Nat) (p : List Int), p ∈ parts ns low high f ↔ p.length = f ∧ ∀ i, i < f → fits ns low high p i
  | 0, p => by
    rw [parts, List.mem_singleton]
    constructor
    · intro h
      rw [h]
      exact ⟨rfl, fun i hi => absurd hi (Nat.not_lt_zero i)⟩
    · exact fun h => List.eq_nil_of_length_eq_zero h.1
  | f + 1, p => by
    rw [parts, List.mem_flatMap]
    have cong : ∀ (q : List Int) (y : Int), q.length = f → ∀ i, i < f → (fits ns low high (q ++ [y]) i ↔ fits ns low high q i) := fun q y hq i hi => by
      unfold fits
      rw [getD_snoc_lt (by omega)]
      have e : okU i (fun u => (q ++ [y]).getD u 0) (ns.getD i []) (q.getD i 0) ↔ okU i (fun u => q.getD u 0) (ns.getD i []) (q.getD i 0) := okU_congr fun u _ hlt => getD_snoc_lt (by omega)
      rw [e]
    have last : ∀ (q : List Int) (y : Int), q.length = f → (fits ns low high (q ++ [y]) f ↔ y ∈ choM f (fun u => q.getD u 0) (ns.getD f []) (low.getD f 0) (high.getD f 0)) := fun q y hq => by
      rw [mem_choM]
      unfold fits
      have e0 : (q ++ [y]).getD f 0 = y := by rw [← hq]; exact getD_snoc_eq
      rw [e0]
      have e : okU f (fun u => (q ++ [y]).getD u 0) (ns.getD f []) y ↔ okU f (fun u => q.getD u 0) (ns.getD f []) y := okU_congr fun u _ hlt => getD_snoc_lt (by omega)
      rw [e]
    constructor
    · rintro ⟨q, hq, hp⟩
      obtain ⟨y, hy, rfl⟩ := List.mem_map.mp hp
      obtain ⟨h1, h2⟩ := (mem_parts f q).mp hq
      refine ⟨by rw [List.length_append, h1]; rfl, fun i hi => ?_⟩
      by_cases e : i = f
      · rw [e]
        exact (last q y h1).mpr hy
      · exact (cong q y h1 i (by omega)).mpr (h2 i (by omega))
    · rintro ⟨h1, h2⟩
      have hne : p ≠ [] := fun z => by rw [z] at h1; cases h1
      have ep : p = p.dropLast ++ [p.getLast hne] := (List.dropLast_concat_getLast hne).symm
      have hl : p.dropLast.length = f := by rw [List.length_dropLast, h1]; rfl
      refine ⟨p.dropLast, (mem_parts f _).mpr ⟨hl, fun i hi => (cong _ (p.getLast hne) hl i hi).mp (by rw [← ep]; exact h2 i (by omega))⟩, ?_⟩
      unfold stepP
      exact List.mem_map.mpr ⟨p.getLast hne, (last _ _ hl).mp (by rw [← ep]; exact h2 f (by omega)), ep.symm⟩
theorem nodup_flat {α β : Type} {F : α → List β} : ∀ {l : List α}, l.Nodup → (∀ x ∈ l, (F x).Nodup) → (∀ x ∈ l, ∀ y ∈ l, ∀ z, z ∈ F x → z ∈ F y → x = y) → (l.flatMap F).Nodup
  | [], _, _, _ => List.nodup_nil
  | x :: r, nd, h1, h2 => by
    rw [List.nodup_cons] at nd
    rw [List.flatMap_cons, List.nodup_append]
    refine ⟨h1 x (List.mem_cons_self ..), nodup_flat nd.2 (fun y hy => h1 y (List.mem_cons_of_mem _ hy)) (fun y hy z hz => h2 y (List.mem_cons_of_mem _ hy) z (List.mem_cons_of_mem _ hz)), fun a ha b hb e => ?_⟩
    subst e
    obtain ⟨y, hy, hay⟩ := List.mem_flatMap.mp hb
    have := h2 x (List.mem_cons_self ..) y (List.mem_cons_of_mem _ hy) a ha hay
    rw [this] at nd
    exact nd.1 hy
theorem nodup_map {α β : Type} {F : α → β} {l : List α} (nd : l.Nodup) (h : ∀ x ∈ l, ∀ y ∈ l, F x = F y → x = y) : (l.map F).Nodup := by
  induction l with
  | nil => exact List.nodup_nil
  | cons x r ih =>
    rw [List.nodup_cons] at nd
    rw [List.map_cons, List.nodup_cons]
    refine ⟨fun z => ?_, ih nd.2 fun y hy z hz => h y (List.mem_cons_of_mem _ hy) z (List.mem_cons_of_mem _ hz)⟩
    obtain ⟨y, hy, e⟩ := List.mem_map.mp z
    have := h x (List.mem_cons_self ..) y (List.mem_cons_of_mem _ hy) e.symm
    rw [this] at nd
    exact nd.1 hy
theorem parts_nodup (ns : List (List Nat)) (low high : List Int) : ∀ f, (parts ns low high f).Nodup
  | 0 => List.pairwise_singleton _ _
  | f + 1 => by
    refine nodup_flat (parts_nodup ns low high f) (fun p hp => ?_) fun p hp q hq z hzp hzq => ?_
    · exact nodup_map (choM_nodup ..) fun a _ b _ e => by
        have := List.append_cancel_left e
        exact (List.cons.inj this).1
    · obtain ⟨a, _, rfl⟩ := List.mem_map.mp hzp
      obtain ⟨b, _, e⟩ := List.mem_map.mp hzq
      have l1 := parts_len f p hp
      have l2 := parts_len f q hq
      exact ((List.append_inj e (by omega)).1).symm
end Tr
namespace Tr
open PySem PySem.Spec PyProof.Rows L2 Evl RZ
/-! ### layings of a web -/
def Lay (wb : Web) (p : List Int) : Prop := p.length = wb.1 ∧ ∀ u v, Adj wb.2 u v → p.getD u 0 - p.getD v 0 = 1 ∨ p.getD v 0 - p.getD u 0 = 1
structure AllLays (wb : Web) (L : List (List Int)) : Prop where
  nd : L.Nodup
  mem : ∀ l, l ∈ L ↔ Lay wb l ∧ l.getD 0 0 = 0
theorem near_iff {wb : Web} {ns : List (List Nat)} (N : NearsOK wb ns) {i u : Nat} (hi : i < wb.1) : u ∈ ns.getD i [] ↔ Adj wb.2 i u := N.mem i _ (get_getD [] (by rw [N.len]; exact hi)) u
theorem mem_lays {wb : Web} {ns : List (List Nat)} {low high : List Int} (N : NearsOK wb ns) (wf : WebForm wb) (hpar : ∀ u v, Adj wb.2 u v → (low.getD u 0 - low.getD v 0) % 2 = 1) (p : List Int) :
    p ∈ parts ns low high wb.1 ↔ Lay wb p ∧ ∀ i, i < wb.1 → (low.getD i 0 ≤ p.getD i 0 ∧ p.getD i 0 ≤ high.getD i 0) ∧ (p.getD i 0 - low.getD i 0) % 2 = 0 := by
  rw [mem_parts]
  constructor
  · rintro ⟨hl, h⟩
    have par : ∀ i, i < wb.1 → (p.getD i 0 - low.getD i 0) % 2 = 0 := by
      intro i
      induction i using Nat.strongRecOn with
      | _ i ih =>
        intro hi
        by_cases hex : ∃ u ∈ ns.getD i [], u < i
        · obtain ⟨u, hu, hlt⟩ := hex
          have h1 := (h i hi).2.1 u hu hlt
          have h2 := ih u hlt (by omega)
          have h3 := hpar i u ((near_iff N hi).mp hu)
          simp only at h1
          omega
        · exact (h i hi).2.2 fun u hu hlt => hex ⟨u, hu, hlt⟩
    refine ⟨⟨hl, fun u v ha => ?_⟩, fun i hi => ⟨(h i hi).1, par i hi⟩⟩
    obtain ⟨h1, h2, h3⟩ := wf.adj ha
    by_cases hlt : u < v
    · have := (h v h2).2.1 u ((near_iff N h2).mpr ha.symm) hlt
      simp only at this
      omega
    · have := (h u h1).2.1 v ((near_iff N h1).mpr ha) (by omega)
      simp only at this
      omega
  · rintro ⟨⟨hl, hL⟩, h⟩
    refine ⟨hl, fun i hi => ⟨(h i hi).1, fun u hu hlt => ?_, fun _ => (h i hi).2⟩⟩
    have := hL i u ((near_iff N hi).mp hu)
    show p.getD i 0 = p.getD u 0 - 1 ∨ p.getD i 0 = p.getD u 0 + 1
    omega
theorem away_odd {wb : Web} {f : Nat} {ds : List Nat} (A : Away wb f ds) (ok : WebOK wb) {u v : Nat} (ha : Adj wb.2 u v) : ((ds.getD u 0 : Int) - (ds.getD v 0 : Int)) % 2 = 1 := by
  obtain ⟨h1, h2, _⟩ := ok.form.adj ha
  have e1 : ds[u]? = some (ds.getD u 0) := get_getD 0 (by rw [A.len]; exact h1)
  have e2 : ds[v]? = some (ds.getD v 0) := get_getD 0 (by rw [A.len]; exact h2)
  rcases ha with h | h
  · have := away_edge A ok.two h e1 e2
    omega
  · have := away_edge A ok.two h e2 e1
    omega
theorem lay_dist {wb : Web} {f : Nat} {ds : List Nat} (A : Away wb f ds) {p : List Int} (hp : Lay wb p) : ∀ (d v : Nat), ds[v]? = some d → (p.getD v 0 - p.getD f 0 ≤ (d : Int) ∧ p.getD f 0 - p.getD v 0 ≤ (d : Int)) ∧ (p.getD v 0 - p.getD f 0 - (d : Int)) % 2 = 0
  | d, v, hv => by
    by_cases e : v = f
    · subst e
      have := A.at0
      rw [hv] at this
      cases this
      omega
    · obtain ⟨u, d', ha, hu, hd⟩ := A.back v d hv e
      have ih := lay_dist A hp d' u hu
      have := hp.2 u v ha
      subst hd
      omega
  termination_by d => d
theorem getD_map {T U : Type} (g : T → U) (l : List T) (i : Nat) (d : T) (e : U) (h : i < l.length) : (l.map g).getD i e = g (l.getD i d) := by
  rw [List.getD_eq_getElem?_getD, List.getD_eq_getElem?_getD, List.getElem?_map, List.getElem?_eq_getElem h]
  rfl
theorem parts_none {ns : List (List Nat)} {low high : List Int} {n : Nat} (h : ∃ i, i < n ∧ high.getD i 0 < low.getD i 0) : parts ns low high n = [] := by
  obtain ⟨i, hi, h2⟩ := h
  refine List.eq_nil_iff_forall_not_mem.mpr fun p hp => ?_
  have := ((mem_parts n p).mp hp).2 i hi
  have h3 := this.1
  omega
/-! ### least and greatest height -/
def minI : List Int → Int
  | [] => 0
  | [x] => x
  | x :: r => min x (minI r)
def maxI : List Int → Int
  | [] => 0
  | [x] => x
  | x :: r => max x (maxI r)
theorem minI_spec : ∀ {l : List Int}, l ≠ [] → minI l ∈ l ∧ ∀ y ∈ l, minI l ≤ y
  | [x], _ => ⟨List.mem_singleton.mpr rfl, fun y hy => by rw [List.mem_singleton.mp hy]; exact Int.le_refl _⟩
  | x :: a :: r, _ => by
    obtain ⟨h1, h2⟩ := minI_spec (l := a :: r) (fun z => nomatch z)
    show min x (minI (a :: r)) ∈ _ ∧ ∀ y ∈ _, min x (minI (a :: r)) ≤ y
    refine ⟨?_, fun y hy => ?_⟩
    · by_cases c : x ≤ minI (a :: r)
      · rw [Int.min_eq_left c]; exact List.mem_cons_self ..
      · rw [Int.min_eq_right (by omega)]; exact List.mem_cons_of_mem _ h1
    · rcases List.mem_cons.mp hy with z | z
      · rw [z]; exact Int.min_le_left ..
      · exact Int.le_trans (Int.min_le_right ..) (h2 y z)
theorem maxI_spec : ∀ {l : List Int}, l ≠ [] → maxI l ∈ l ∧ ∀ y ∈ l, y ≤ maxI l
  | [x], _ => ⟨List.mem_singleton.mpr rfl, fun y hy => by rw [List.mem_singleton.mp hy]; exact Int.le_refl _⟩
  | x :: a :: r, _ => by
    obtain ⟨h1, h2⟩ := maxI_spec (l := a :: r) (fun z => nomatch z)
    show max x (maxI (a :: r)) ∈ _ ∧ ∀ y ∈ _, y ≤ max x (maxI (a :: r))
    refine ⟨?_, fun y hy => ?_⟩
    · by_cases c : x ≤ maxI (a :: r)
      · rw [Int.max_eq_right c]; exact List.mem_cons_of_mem _ h1
      · rw [Int.max_eq_left (by omega)]; exact List.mem_cons_self ..
    · rcases List.mem_cons.mp hy with z | z
      · rw [z]; exact Int.le_max_left ..
      · exact Int.le_trans (h2 y z) (Int.le_max_right ..)
theorem minI_eq {l : List Int} {m : Int} (h1 : m ∈ l) (h2 : ∀ y ∈ l, m ≤ y) : minI l = m := by
  obtain ⟨a, b⟩ := minI_spec (l := l) (fun z => by rw [z] at h1; cases h1)
  have := b m h1
  have := h2 _ a
  omega
theorem maxI_eq {l : List Int} {m : Int} (h1 : m ∈ l) (h2 : ∀ y ∈ l, y ≤ m) : maxI l = m := by
  obtain ⟨a, b⟩ := maxI_spec (l := l) (fun z => by rw [z] at h1; cases h1)
  have := b m h1
  have := h2 _ a
  omega
def spanI (l : List Int) : Int := maxI l - minI l
theorem get_mem {l : List Int} {i : Nat} (h : i < l.length) : l.getD i 0 ∈ l := List.mem_of_getElem? (get_getD 0 h)
theorem mem_get {l : List Int} {x : Int} (h : x ∈ l) : ∃ i, i < l.length ∧ l.getD i 0 = x := by
  obtain ⟨i, hi⟩ := List.getElem?_of_mem h
  refine ⟨i, (List.getElem?_eq_some_iff.mp hi).1, ?_⟩
  rw [List.getD_eq_getElem?_getD, hi]
  rfl
/-! ### the same list shifted -/
def sh (c : Int) (l : List Int) : List Int := l.map (· + c)
theorem sh_get {c : Int} {l : List Int} {i : Nat} (h : i < l.length) : (sh c l).getD i 0 = l.getD i 0 + c := getD_map (· + c) l i 0 0 h
theorem sh_len (c : Int) (l : List Int) : (sh c l).length = l.length := List.length_map _
theorem list_ext {l m : List Int} (hl : l.length = m.length) (h : ∀ i, i < l.length → l.getD i 0 = m.getD i 0) : l = m := by
  refine List.ext_getElem? fun i => ?_
  by_cases hi : i < l.length
  · rw [get_getD 0 hi, get_getD 0 (by omega), h i hi]
  · rw [List.getElem?_eq_none (by omega), List.getElem?_eq_none (by omega)]
theorem lay_sh {wb : Web} (wf : WebForm wb) {p : List Int} (hp : Lay wb p) (c : Int) : Lay wb (sh c p) := by
  refine ⟨by rw [sh_len]; exact hp.1, fun u v ha => ?_⟩
  obtain ⟨h1, h2, _⟩ := wf.adj ha
  rw [sh_get (by rw [hp.1]; exact h1), sh_get (by rw [hp.1]; exact h2)]
  have := hp.2 u v ha
  omega
/-! ### how many layings lie within 0 .. s -/
def numS (L : List (List Int)) (s : Int) : Int := (L.map fun l => ((s + 1 - spanI l).toNat : Int)).sum
def within (L : List (List Int)) (s : Int) : List (List Int) := L.flatMap fun l => (List.range (s + 1 - spanI l).toNat).map fun (k : Nat) => sh ((k : Int) - minI l) l
theorem within_len (L : List (List Int)) (s : Int) : ((within L s).length : Int) = numS L s := by
  unfold within numS
  induction L with
  | nil => rfl
  | cons l r ih =>
    rw [List.flatMap_cons, List.length_append, List.length_map, List.length_range, List.map_cons, List.sum_cons, ← ih]
    simp
theorem mem_within {wb : Web} (wf : WebForm wb) {L : List (List Int)} (A : AllLays wb L) {s : Int} (q : List Int) : q ∈ within L s ↔ Lay wb q ∧ ∀ i, i < wb.1 → 0 ≤ q.getD i 0 ∧ q.getD i 0 ≤ s := by
  have hlo := wf.lo
  unfold within
  rw [List.mem_flatMap]
  constructor
  · rintro ⟨l, hl, hq⟩
    obtain ⟨k, hk, rfl⟩ := List.mem_map.mp hq
    rw [List.mem_range] at hk
    obtain ⟨h1, h2⟩ := (A.mem l).mp hl
    have hne : l ≠ [] := fun z => by have := h1.1; rw [z] at this; simp at this; omega
    refine ⟨lay_sh wf h1 _, fun i hi => ?_⟩
    have hil : i < l.length := by rw [h1.1]; exact hi
    rw [sh_get hil]
    have hm := (minI_spec hne).2 _ (get_mem hil)
    have hM := (maxI_spec hne).2 _ (get_mem hil)
    unfold spanI at hk
    omega
  · rintro ⟨h1, h2⟩
    have hne : q ≠ [] := fun z => by have := h1.1; rw [z] at this; simp at this; omega
    have hl0 : 0 < q.length := by rw [h1.1]; exact hlo
    have hmem : sh (-(q.getD 0 0)) q ∈ L := (A.mem _).mpr ⟨lay_sh wf h1 _, by rw [sh_get hl0]; omega⟩
    obtain ⟨m1, m2⟩ := minI_spec hne
    obtain ⟨x1, x2⟩ := maxI_spec hne
    obtain ⟨i, hi, ei⟩ := mem_get m1
    obtain ⟨j, hj, ej⟩ := mem_get x1
    have e1 : minI (sh (-(q.getD 0 0)) q) = minI q - q.getD 0 0 := minI_eq (by
        rw [← ei, show q.getD i 0 - q.getD 0 0 = (sh (-(q.getD 0 0)) q).getD i 0 by rw [sh_get hi]; omega]
        exact get_mem (by rw [sh_len]; exact hi)) fun y hy => by
      obtain ⟨k, hk, ek⟩ := mem_get hy
      rw [sh_len] at hk
      rw [sh_get hk] at ek
      have := m2 _ (get_mem hk)
      omega
    have e2 : maxI (sh (-(q.getD 0 0)) q) = maxI q - q.getD 0 0 := maxI_eq (by
        rw [← ej, show q.getD j 0 - q.getD 0 0 = (sh (-(q.getD 0 0)) q).getD j 0 by rw [sh_get hj]; omega]
        exact get_mem (by rw [sh_len]; exact hj)) fun y hy => by
      obtain ⟨k, hk, ek⟩ := mem_get hy
      rw [sh_len] at hk
      rw [sh_get hk] at ek
      have := x2 _ (get_mem hk)
      omega
    have hI := h2 i (by rw [← h1.1]; exact hi)
    have hJ := h2 j (by rw [← h1.1]; exact hj)
    rw [ei] at hI
    rw [ej] at hJ
    refine ⟨_, hmem, List.mem_map.mpr ⟨(minI q).toNat, ?_, ?_⟩⟩
    · rw [List.mem_range]
      unfold spanI
      rw [e1, e2]
      omega
    · rw [e1]
      refine list_ext (by rw [sh_len, sh_len]) fun k hk => ?_
      rw [sh_len, sh_len] at hk
      rw [sh_get (by rw [sh_len]; exact hk), sh_get hk]
      omega
theorem within_nodup {wb : Web} (wf : WebForm wb) {L : List (List Int)} (A : AllLays wb L) (s : Int) : (within L s).Nodup := by
  have hlo := wf.lo
  have at0 : ∀ l ∈ L, ∀ c : Int, (sh c l).getD 0 0 = c := fun l hl c => by
    obtain ⟨h1, h2⟩ := (A.mem l).mp hl
    rw [sh_get (by rw [h1.1]; exact hlo), h2]
    omega
  refine nodup_flat A.nd (fun l hl => nodup_map List.nodup_range fun a _ b _ e => ?_) fun l hl m hm z hz1 hz2 => ?_
  · have h1 := at0 l hl ((a : Int) - minI l)
    have h2 := at0 l hl ((b : Int) - minI l)
    rw [e] at h1
    omega
  · obtain ⟨a, _, rfl⟩ := List.mem_map.mp hz1
    obtain ⟨b, _, e⟩ := List.mem_map.mp hz2
    have h1 := at0 l hl ((a : Int) - minI l)
    have h2 := at0 m hm ((b : Int) - minI m)
    have hl1 := ((A.mem l).mp hl).1.1
    have hm1 := ((A.mem m).mp hm).1.1
    rw [e] at h2
    have hc : (a : Int) - minI l = (b : Int) - minI m := by omega
    refine list_ext (by omega) fun i hi => ?_
    have e3 : (sh ((a : Int) - minI l) l).getD i 0 = (sh ((b : Int) - minI m) m).getD i 0 := by rw [e]
    rw [sh_get hi, sh_get (by omega)] at e3
    omega
/-! ### the two starts -/
def lowS (st : Int) (ds : List Nat) : List Int := ds.map fun (d : Nat) => (st + (d : Int)) % 2
def highS (s : Int) (low : List Int) : List Int := low.map fun h => s - (s - h) % 2
theorem lowS_get {st : Int} {ds : List Nat} {i : Nat} (h : i < ds.length) : (lowS st ds).getD i 0 = (st + (ds.getD i 0 : Int)) % 2 := getD_map (fun (d : Nat) => (st + (d : Int)) % 2) ds i 0 0 h
theorem highS_get {s st : Int} {ds : List Nat} {i : Nat} (h : i < ds.length) : (highS s (lowS st ds)).getD i 0 = s - (s - (st + (ds.getD i 0 : Int)) % 2) % 2 := by
  unfold highS
  rw [getD_map _ _ i 0 0 (by unfold lowS; rw [List.length_map]; exact h), lowS_get h]
theorem lowS_odd {wb : Web} {ds : List Nat} (A : Away wb 0 ds) (ok : WebOK wb) (st : Int) : ∀ u v, Adj wb.2 u v → ((lowS st ds).getD u 0 - (lowS st ds).getD v 0) % 2 = 1 := fun u v ha => by
  obtain ⟨h1, h2, _⟩ := ok.form.adj ha
  rw [lowS_get (by rw [A.len]; exact h1), lowS_get (by rw [A.len]; exact h2)]
  have := away_odd A ok ha
  omega
theorem mem_start {wb : Web} {ns : List (List Nat)} {ds : List Nat} (N : NearsOK wb ns) (A : Away wb 0 ds) (ok : WebOK wb) {st s : Int} (hst : st = 0 ∨ st = 1) (p : List Int) :
    p ∈ parts ns (lowS st ds) (highS s (lowS st ds)) wb.1 ↔ (Lay wb p ∧ ∀ i, i < wb.1 → 0 ≤ p.getD i 0 ∧ p.getD i 0 ≤ s) ∧ (p.getD 0 0 - st) % 2 = 0 := by
  have hlo := ok.form.lo
  have hlen := A.len
  rw [mem_lays N ok.form (lowS_odd A ok st)]
  have d0 : ds.getD 0 0 = 0 := by
    have := A.at0
    rw [List.getD_eq_getElem?_getD, this]
    rfl
  constructor
  · rintro ⟨h1, h2⟩
    refine ⟨⟨h1, fun i hi => ?_⟩, ?_⟩
    · have := h2 i hi
      rw [lowS_get (by omega), highS_get (by omega)] at this
      omega
    · have := h2 0 (by omega)
      rw [lowS_get (by omega), d0] at this
      omega
  · rintro ⟨⟨h1, h2⟩, h3⟩
    refine ⟨h1, fun i hi => ?_⟩
    have h4 := h2 i hi
    have h5 := (lay_dist A h1 _ i (get_getD 0 (by omega))).2
    rw [lowS_get (by omega), highS_get (by omega)]
    omega
theorem num_eq {wb : Web} {ns : List (List Nat)} {ds : List Nat} {L : List (List Int)} (N : NearsOK wb ns) (A : Away wb 0 ds) (ok : WebOK wb) (AL : AllLays wb L) (s : Int) :
    ((parts ns (lowS 0 ds) (highS s (lowS 0 ds)) wb.1).length : Int) + ((parts ns (lowS 1 ds) (highS s (lowS 1 ds)) wb.1).length : Int) = numS L s := by
  rw [← within_len]
  have nd : (parts ns (lowS 0 ds) (highS s (lowS 0 ds)) wb.1 ++ parts ns (lowS 1 ds) (highS s (lowS 1 ds)) wb.1).Nodup := by
    rw [List.nodup_append]
    refine ⟨parts_nodup .., parts_nodup .., fun a ha b hb e => ?_⟩
    subst e
    have h1 := ((mem_start N A ok (.inl rfl) a).mp ha).2
    have h2 := ((mem_start N A ok (.inr rfl) a).mp hb).2
    omega
  have pm := (List.perm_ext_iff_of_nodup nd (within_nodup ok.form AL s)).mpr fun p => by
    rw [List.mem_append, mem_start N A ok (.inl rfl), mem_start N A ok (.inr rfl), mem_within ok.form AL]
    constructor
    · rintro (h | h)
      · exact h.1
      · exact h.1
    · intro h
      by_cases c : (p.getD 0 0 - 0) % 2 = 0
      · exact .inl ⟨h, c⟩
      · exact .inr ⟨h, by omega⟩
  have := pm.length_eq
  rw [List.length_append] at this
  omega
end Tr
namespace Tr
open PySem PySem.Spec PyProof.Rows L2 Evl RZ
/-! ### tallies -/
theorem nodup_lt_len : ∀ (n : Nat) (l : List Nat), l.Nodup → (∀ x ∈ l, x < n) → l.length ≤ n
  | 0, l, _, h => by
    cases l with
    | nil => exact Nat.le_refl _
    | cons x r => exact absurd (h x (List.mem_cons_self ..)) (Nat.not_lt_zero x)
  | n + 1, l, nd, h => by
    have ih := nodup_lt_len n (l.filter fun x => decide (x ≠ n)) (List.Pairwise.filter _ nd) fun x hx => by
      rw [List.mem_filter, decide_eq_true_eq] at hx
      have := h x hx.1
      omega
    have key : ∀ m : List Nat, m.Nodup → m.length ≤ (m.filter fun x => decide (x ≠ n)).length + 1 := by
      intro m
      induction m with
      | nil => exact fun _ => Nat.zero_le _
      | cons x r ihm =>
        intro hm
        rw [List.nodup_cons] at hm
        by_cases c : x = n
        · have hr : r.filter (fun y => decide (y ≠ n)) = r := List.filter_eq_self.mpr fun y hy => decide_eq_true fun z => hm.1 (by rw [c, ← z]; exact hy)
          rw [List.filter_cons_of_neg (by rw [c]; simp), hr]
          exact Nat.le_refl _
        · rw [List.filter_cons_of_pos (by exact decide_eq_true c), List.length_cons, List.length_cons]
          have := ihm hm.2
          omega
    have := key l nd
    omega
theorem away_chain {wb : Web} {f : Nat} {ds : List Nat} (A : Away wb f ds) : ∀ (d v : Nat), ds[v]? = some d → ∃ l : List Nat, l.length = d + 1 ∧ l.Nodup ∧ ∀ x ∈ l, x < wb.1 ∧ ∃ d', d' ≤ d ∧ ds[x]? = some d'
  | d, v, hv => by
    have hvl : v < wb.1 := by
      have := (List.getElem?_eq_some_iff.mp hv).1
      rw [A.len] at this
      exact this
    by_cases e : v = f
    · subst e
      have := A.at0
      rw [hv] at this
      cases this
      exact ⟨[v], rfl, List.pairwise_singleton _ _, fun x hx => by
        rw [List.mem_singleton] at hx
        subst hx
        exact ⟨hvl, 0, Nat.le_refl _, hv⟩⟩
    · obtain ⟨u, d', ha, hu, hd⟩ := A.back v d hv e
      obtain ⟨l, h1, h2, h3⟩ := away_chain A d' u hu
      refine ⟨v :: l, by rw [List.length_cons, h1, hd], ?_, fun x hx => ?_⟩
      · rw [List.nodup_cons]
        refine ⟨fun z => ?_, h2⟩
        obtain ⟨_, d2, h4, h5⟩ := h3 v z
        rw [hv] at h5
        cases h5
        omega
      · rcases List.mem_cons.mp hx with z | z
        · rw [z]
          exact ⟨hvl, d, Nat.le_refl _, hv⟩
        · obtain ⟨h4, d2, h5, h6⟩ := h3 x z
          exact ⟨h4, d2, by omega, h6⟩
  termination_by d => d
theorem away_lt {wb : Web} {f : Nat} {ds : List Nat} (A : Away wb f ds) {v d : Nat} (h : ds[v]? = some d) : d < wb.1 := by
  obtain ⟨l, h1, h2, h3⟩ := away_chain A d v h
  have := nodup_lt_len wb.1 l h2 fun x hx => (h3 x hx).1
  omega
theorem away_mem {wb : Web} {f : Nat} {ds : List Nat} (A : Away wb f ds) {d : Nat} (h : d ∈ ds) : d < wb.1 := by
  obtain ⟨v, hv⟩ := List.getElem?_of_mem h
  exact away_lt A hv
theorem second_diff (s : Int) : ∀ L : List (List Int), numS L s - 2 * numS L (s - 1) + numS L (s - 2) = ((L.map spanI).count s : Int)
  | [] => rfl
  | l :: r => by
    have ih := second_diff s r
    have e : ∀ t : Int, numS (l :: r) t = ((t + 1 - spanI l).toNat : Int) + numS r t := fun t => by
      unfold numS
      rw [List.map_cons, List.sum_cons]
    rw [e, e, e, List.map_cons, List.count_cons]
    by_cases c : spanI l = s
    · have hb : (spanI l == s) = true := beq_iff_eq.mpr c
      rw [hb, if_pos rfl]
      omega
    · have hb : (spanI l == s) = false := beq_eq_false_iff_ne.mpr c
      rw [hb, if_neg Bool.false_ne_true]
      omega
theorem numS_neg {L : List (List Int)} {s : Int} (h : ∀ l ∈ L, s + 1 ≤ spanI l) : numS L s = 0 := by
  unfold numS
  induction L with
  | nil => rfl
  | cons l r ih =>
    rw [List.map_cons, List.sum_cons, ih fun m hm => h m (List.mem_cons_of_mem _ hm)]
    have := h l (List.mem_cons_self ..)
    omega
def IsTally (xs : List Int) (t : List (Int × Int)) : Prop := ∃ us : List Int, us.Pairwise (· < ·) ∧ (∀ u, u ∈ us ↔ u ∈ xs) ∧ t = us.map fun u => (u, (xs.count u : Int))
theorem rise_uniq : ∀ {us vs : List Int}, us.Pairwise (· < ·) → vs.Pairwise (· < ·) → (∀ u, u ∈ us ↔ u ∈ vs) → us = vs
  | [], [], _, _, _ => rfl
  | [], v :: vs, _, _, h => by have := (h v).mpr (List.mem_cons_self ..); cases this
  | u :: us, [], _, _, h => by have := (h u).mp (List.mem_cons_self ..); cases this
  | u :: us, v :: vs, h1, h2, h => by
    rw [List.pairwise_cons] at h1 h2
    have e : u = v := by
      have a := (h u).mp (List.mem_cons_self ..)
      have b := (h v).mpr (List.mem_cons_self ..)
      rcases List.mem_cons.mp a with z | z
      · exact z
      · rcases List.mem_cons.mp b with y | y
        · exact y.symm
        · have := h1.1 v y
          have := h2.1 u z
          omega
    subst e
    refine congrArg (u :: ·) (rise_uniq h1.2 h2.2 fun x => ?_)
    constructor
    · intro hx
      rcases List.mem_cons.mp ((h x).mp (List.mem_cons_of_mem _ hx)) with z | z
      · have := h1.1 x hx
        omega
      · exact z
    · intro hx
      rcases List.mem_cons.mp ((h x).mpr (List.mem_cons_of_mem _ hx)) with z | z
      · have := h2.1 x hx
        omega
      · exact z
theorem tally_uniq {xs : List Int} {t t' : List (Int × Int)} (h : IsTally xs t) (h' : IsTally xs t') : t = t' := by
  obtain ⟨us, a, b, rfl⟩ := h
  obtain ⟨vs, c, d, rfl⟩ := h'
  rw [rise_uniq a c fun u => (b u).trans (d u).symm]
theorem rise_nodup {us : List Int} (h : us.Pairwise (· < ·)) : us.Nodup := h.imp fun {a b} h z => by omega
theorem pick_sum (g : Int → Int) (x : Int) : ∀ {us : List Int}, us.Nodup → x ∈ us → (us.map fun u => if u = x then g u else 0).sum = g x
  | [], _, h => by cases h
  | u :: us, nd, h => by
    rw [List.nodup_cons] at nd
    rw [List.map_cons, List.sum_cons]
    by_cases c : u = x
    · rw [if_pos c]
      have hz : ∀ l : List Int, (∀ v ∈ l, v ≠ x) → (l.map fun u => if u = x then g u else 0).sum = 0 := fun l => by
        induction l with
        | nil => exact fun _ => rfl
        | cons v l ih =>
          intro q
          rw [List.map_cons, List.sum_cons, if_neg (q v (List.mem_cons_self ..)), ih fun w hw => q w (List.mem_cons_of_mem _ hw)]
          rfl
      rw [hz us fun v hv z => nd.1 (by rw [c, ← z]; exact hv), c]
      omega
    · rw [if_neg c, pick_sum g x nd.2 (by
        rcases List.mem_cons.mp h with z | z
        · exact absurd z.symm c
        · exact z)]
      omega
theorem tally_sums {us : List Int} (nd : us.Nodup) (g : Int → Int) : ∀ {xs : List Int}, (∀ x ∈ xs, x ∈ us) → (us.map fun u => g u * (xs.count u : Int)).sum = (xs.map g).sum
  | [], _ => by
    have : ∀ l : List Int, (l.map fun u => g u * (([] : List Int).count u : Int)).sum = 0 := fun l => by
      induction l with
      | nil => rfl
      | cons v l ih =>
        rw [List.map_cons, List.sum_cons, ih]
        simp
    exact this us
  | x :: xs, h => by
    have ih := tally_sums nd g (xs := xs) fun y hy => h y (List.mem_cons_of_mem _ hy)
    have hp := pick_sum g x nd (h x (List.mem_cons_self ..))
    rw [List.map_cons, List.sum_cons, ← ih, ← hp]
    have : ∀ l : List Int, (l.map fun u => g u * ((x :: xs).count u : Int)).sum = (l.map fun u => if u = x then g u else 0).sum + (l.map fun u => g u * (xs.count u : Int)).sum := fun l => by
      induction l with
      | nil => rfl
      | cons v l ihl =>
        rw [List.map_cons, List.map_cons, List.map_cons, List.sum_cons, List.sum_cons, List.sum_cons, ihl, List.count_cons]
        by_cases c : v = x
        · have hb : (x == v) = true := beq_iff_eq.mpr c.symm
          rw [hb, if_pos rfl, if_pos c]
          have e : g v * ((xs.count v + 1 : Nat) : Int) = g v * (xs.count v : Int) + g v := by
            rw [Int.natCast_add, Int.mul_add]
            omega
          rw [e]
          omega
        · have hb : (x == v) = false := beq_eq_false_iff_ne.mpr fun z => c z.symm
          rw [hb, if_neg Bool.false_ne_true, if_neg c, Nat.add_zero]
          omega
    exact this us
theorem tally_two {xs : List Int} {t : List (Int × Int)} (h : IsTally xs t) : (t.map fun p => p.1 * p.2).sum = xs.sum ∧ (t.map (·.2)).sum = (xs.length : Int) := by
  obtain ⟨us, a, b, rfl⟩ := h
  have nd := rise_nodup a
  have h1 := tally_sums nd (fun u => u) (xs := xs) fun x hx => (b x).mpr hx
  have h2 := tally_sums nd (fun _ => 1) (xs := xs) fun x hx => (b x).mpr hx
  constructor
  · rw [List.map_map]
    show (us.map fun u => u * (xs.count u : Int)).sum = _
    rw [h1, List.map_id']
  · rw [List.map_map]
    show (us.map fun u => (xs.count u : Int)).sum = _
    have e : (us.map fun u => (xs.count u : Int)) = us.map fun u => 1 * (xs.count u : Int) := List.map_congr_left fun u _ => by omega
    rw [e, h2]
    clear h1 h2 e b
    induction xs with
    | nil => rfl
    | cons x r ih =>
      rw [List.map_cons, List.sum_cons, ih, List.length_cons]
      omega
/-! the list of span_tally -/
def upT (xs : List Int) (W : Nat) : List (Int × Int) := ((List.range W).filter fun (s : Nat) => decide (0 < xs.count (s : Int))).map fun (s : Nat) => ((s : Int), (xs.count (s : Int) : Int))
theorem count_pos {xs : List Int} {u : Int} : 0 < xs.count u ↔ u ∈ xs := List.count_pos_iff
theorem upT_tally {xs : List Int} {W : Nat} (h : ∀ x ∈ xs, 0 ≤ x ∧ x < (W : Int)) : IsTally xs (upT xs W) := by
  refine ⟨((List.range W).filter fun (s : Nat) => decide (0 < xs.count (s : Int))).map fun (s : Nat) => (s : Int), ?_, fun u => ?_, ?_⟩
  · refine List.Pairwise.map _ (fun a b h => ?_) (List.Pairwise.filter _ (List.pairwise_lt_range))
    show (a : Int) < (b : Int)
    omega
  · rw [List.mem_map]
    constructor
    · rintro ⟨s, hs, rfl⟩
      rw [List.mem_filter, decide_eq_true_eq] at hs
      exact count_pos.mp hs.2
    · intro hu
      have := h u hu
      refine ⟨u.toNat, ?_, by omega⟩
      have e : ((u.toNat : Nat) : Int) = u := by omega
      rw [List.mem_filter, List.mem_range, decide_eq_true_eq, e]
      exact ⟨by omega, count_pos.mpr hu⟩
  · rw [List.map_map]
    rfl
/-! the list of lowest_tally -/
def downT (xs : List Int) (W : Nat) : List (Int × Int) := ((List.range W).filter fun (s : Nat) => decide (0 < xs.count (-(s : Int)))).map fun (s : Nat) => (-(s : Int), (xs.count (-(s : Int)) : Int))
theorem downT_tally {xs : List Int} {W : Nat} (h : ∀ x ∈ xs, -(W : Int) < x ∧ x ≤ 0) : IsTally xs (downT xs W).reverse := by
  refine ⟨(((List.range W).filter fun (s : Nat) => decide (0 < xs.count (-(s : Int)))).map fun (s : Nat) => -(s : Int)).reverse, ?_, fun u => ?_, ?_⟩
  · rw [List.pairwise_reverse]
    refine List.Pairwise.map _ (fun a b h => ?_) (List.Pairwise.filter _ (List.pairwise_lt_range))
    show -(b : Int) < -(a : Int)
    omega
  · rw [List.mem_reverse, List.mem_map]
    constructor
    · rintro ⟨s, hs, rfl⟩
      rw [List.mem_filter, decide_eq_true_eq] at hs
      exact count_pos.mp hs.2
    · intro hu
      have := h u hu
      refine ⟨(-u).toNat, ?_, by omega⟩
      have e : -(((-u).toNat : Nat) : Int) = u := by omega
      rw [List.mem_filter, List.mem_range, decide_eq_true_eq, e]
      exact ⟨by omega, count_pos.mpr hu⟩
  · unfold downT
    rw [List.map_reverse, List.map_map]
    rfl
/-! bounds of what a laying has -/
theorem lay_ne {wb : Web} (wf : WebForm wb) {l : List Int} (h : Lay wb l) : l ≠ [] := fun z => by
  have := h.1
  rw [z] at this
  have := wf.lo
  simp at *
  omega
theorem span_ge {wb : Web} (wf : WebForm wb) {l : List Int} (h : Lay wb l) : 0 ≤ spanI l := by
  have hne := lay_ne wf h
  have := (maxI_spec hne).2 _ (minI_spec hne).1
  unfold spanI
  omega
theorem span_le {wb : Web} (wf : WebForm wb) {l : List Int} (h : Lay wb l) {W : Nat} (hW : ∀ f, f < wb.1 → ∃ ds, Away wb f ds ∧ ∀ d ∈ ds, d ≤ W) : spanI l ≤ (W : Int) := by
  have hne := lay_ne wf h
  obtain ⟨i, hi, ei⟩ := mem_get (minI_spec hne).1
  obtain ⟨j, hj, ej⟩ := mem_get (maxI_spec hne).1
  obtain ⟨ds, A, hd⟩ := hW i (by rw [← h.1]; exact hi)
  have hj2 : j < ds.length := by rw [A.len, ← h.1]; exact hj
  have h1 := (lay_dist A h _ j (get_getD 0 hj2)).1
  have h2 := hd _ (List.mem_of_getElem? (get_getD 0 hj2))
  unfold spanI
  omega
theorem low_le {wb : Web} (wf : WebForm wb) {l : List Int} (h : Lay wb l) (h0 : l.getD 0 0 = 0) {ds : List Nat} (A : Away wb 0 ds) {M : Nat} (hM : ∀ d ∈ ds, d ≤ M) : -(M : Int) ≤ minI l ∧ minI l ≤ 0 := by
  have hne := lay_ne wf h
  have hlo := wf.lo
  obtain ⟨i, hi, ei⟩ := mem_get (minI_spec hne).1
  have hi2 : i < ds.length := by rw [A.len, ← h.1]; exact hi
  have h1 := (lay_dist A h _ i (get_getD 0 hi2)).1
  have h2 := hM _ (List.mem_of_getElem? (get_getD 0 hi2))
  have h3 := (minI_spec hne).2 _ (get_mem (i := 0) (by rw [h.1]; exact hlo))
  omega
theorem lays_ne {wb : Web} (ok : WebOK wb) {L : List (List Int)} (A : AllLays wb L) : L ≠ [] := by
  obtain ⟨c, hc⟩ := ok.two
  have hlo := ok.form.lo
  have hm : ((List.range wb.1).map fun i => if c i = c 0 then (0 : Int) else 1) ∈ L := by
    have hg : ∀ i, i < wb.1 → ((List.range wb.1).map fun i => if c i = c 0 then (0 : Int) else 1).getD i 0 = if c i = c 0 then (0 : Int) else 1 := fun i hi => by
      rw [List.getD_eq_getElem?_getD, List.getElem?_map, List.getElem?_range hi]
      rfl
    refine (A.mem _).mpr ⟨⟨by rw [List.length_map, List.length_range], fun u v ha => ?_⟩, by rw [hg 0 (by omega), if_pos rfl]⟩
    obtain ⟨h1, h2, _⟩ := ok.form.adj ha
    rw [hg u h1, hg v h2]
    have hne : c u ≠ c v := by
      rcases ha with h | h
      · exact hc _ h
      · exact (hc _ h).symm
    cases x : c u <;> cases y : c v <;> cases t : c 0 <;> simp_all
  exact fun z => by rw [z] at hm; cases hm
end Tr
namespace Tr
open PySem PySem.Spec PyProof.Rows L2 Evl RZ
/-! ### layings whose least height is bounded -/
def floor1 (least one : Int) : Int := if least + (one - least) % 2 > one then least + (one - least) % 2 else one
def lowB (ds : List Nat) : List Int := ds.map fun (d : Nat) => 0 - (d : Int)
def highB (ds : List Nat) : List Int := ds.map fun (d : Nat) => 0 + (d : Int)
def floorB (least : Int) (ds : List Nat) : List Int := (lowB ds).map (floor1 least)
theorem lowB_get {ds : List Nat} {i : Nat} (h : i < ds.length) : (lowB ds).getD i 0 = 0 - (ds.getD i 0 : Int) := getD_map (fun (d : Nat) => 0 - (d : Int)) ds i 0 0 h
theorem highB_get {ds : List Nat} {i : Nat} (h : i < ds.length) : (highB ds).getD i 0 = 0 + (ds.getD i 0 : Int) := getD_map (fun (d : Nat) => 0 + (d : Int)) ds i 0 0 h
theorem floorB_get {least : Int} {ds : List Nat} {i : Nat} (h : i < ds.length) : (floorB least ds).getD i 0 = floor1 least (0 - (ds.getD i 0 : Int)) := by
  unfold floorB
  rw [getD_map _ _ i 0 0 (by unfold lowB; rw [List.length_map]; exact h), lowB_get h]
theorem away0 {wb : Web} {ds : List Nat} (A : Away wb 0 ds) : ds.getD 0 0 = 0 := by
  have := A.at0
  rw [List.getD_eq_getElem?_getD, this]
  rfl
theorem mem_low {wb : Web} {ns : List (List Nat)} {d1 d2 : List Nat} (N : NearsOK wb ns) (A1 : Away wb 0 d1) (A2 : Away wb 0 d2) (ok : WebOK wb) {least : Int} (hl : least ≤ 0) (p : List Int) :
    p ∈ parts ns (floorB least d1) (highB d2) wb.1 ↔ (Lay wb p ∧ p.getD 0 0 = 0) ∧ ∀ i, i < wb.1 → least ≤ p.getD i 0 := by
  have hlo := ok.form.lo
  have l1 := A1.len
  have l2 := A2.len
  have odd : ∀ u v, Adj wb.2 u v → ((floorB least d1).getD u 0 - (floorB least d1).getD v 0) % 2 = 1 := fun u v ha => by
    obtain ⟨h1, h2, _⟩ := ok.form.adj ha
    have := away_odd A1 ok ha
    rw [floorB_get (by omega), floorB_get (by omega)]
    unfold floor1
    split <;> split <;> omega
  rw [mem_lays N ok.form odd]
  have z1 := away0 A1
  have z2 := away0 A2
  constructor
  · rintro ⟨h1, h2⟩
    refine ⟨⟨h1, ?_⟩, fun i hi => ?_⟩
    · have := (h2 0 (by omega)).1
      rw [floorB_get (by omega), highB_get (by omega), z1, z2] at this
      unfold floor1 at this
      split at this <;> omega
    · have := (h2 i hi).1
      rw [floorB_get (by omega)] at this
      unfold floor1 at this
      split at this <;> omega
  · rintro ⟨⟨h1, h0⟩, h2⟩
    refine ⟨h1, fun i hi => ?_⟩
    have h3 := lay_dist A1 h1 _ i (get_getD 0 (by omega))
    have h4 := lay_dist A2 h1 _ i (get_getD 0 (by omega))
    have h5 := h2 i hi
    rw [floorB_get (by omega), highB_get (by omega)]
    unfold floor1
    split <;> omega
def lowC (L : List (List Int)) (least : Int) : Nat := (L.map minI).countP fun m => decide (least ≤ m)
theorem low_eq {wb : Web} {ns : List (List Nat)} {d1 d2 : List Nat} {L : List (List Int)} (N : NearsOK wb ns) (A1 : Away wb 0 d1) (A2 : Away wb 0 d2) (ok : WebOK wb) (AL : AllLays wb L) {least : Int} (hl : least ≤ 0) :
    (parts ns (floorB least d1) (highB d2) wb.1).length = lowC L least := by
  have e : lowC L least = (L.filter fun l => decide (least ≤ minI l)).length := by
    unfold lowC
    rw [List.countP_map, List.countP_eq_length_filter]
    rfl
  rw [e]
  refine (List.Perm.length_eq ((List.perm_ext_iff_of_nodup (parts_nodup ..) (List.Pairwise.filter _ AL.nd)).mpr fun p => ?_))
  rw [mem_low N A1 A2 ok hl, List.mem_filter, AL.mem, decide_eq_true_eq]
  constructor
  · rintro ⟨h1, h2⟩
    refine ⟨h1, ?_⟩
    obtain ⟨i, hi, ei⟩ := mem_get (minI_spec (lay_ne ok.form h1.1)).1
    rw [← ei]
    exact h2 i (by rw [← h1.1.1]; exact hi)
  · rintro ⟨h1, h2⟩
    refine ⟨h1, fun i hi => ?_⟩
    have := (minI_spec (lay_ne ok.form h1.1)).2 _ (get_mem (i := i) (by rw [h1.1.1]; exact hi))
    omega
theorem lowC_step (L : List (List Int)) (least : Int) : lowC L least = lowC L (least + 1) + (L.map minI).count least := by
  unfold lowC
  induction L.map minI with
  | nil => rfl
  | cons m r ih =>
    rw [List.countP_cons, List.countP_cons, List.count_cons, ih]
    by_cases c : m = least
    · have hb : (m == least) = true := beq_iff_eq.mpr c
      rw [hb, if_pos rfl, if_pos (decide_eq_true (by omega)), if_neg (by rw [decide_eq_true_eq]; omega)]
      omega
    · have hb : (m == least) = false := beq_eq_false_iff_ne.mpr c
      rw [hb, if_neg Bool.false_ne_true]
      by_cases c2 : least ≤ m
      · rw [if_pos (decide_eq_true c2), if_pos (decide_eq_true (by omega))]
        omega
      · rw [if_neg (by rw [decide_eq_true_eq]; exact c2), if_neg (by rw [decide_eq_true_eq]; omega)]
        omega
theorem lowC_top {L : List (List Int)} (h : ∀ l ∈ L, minI l ≤ 0) : lowC L 1 = 0 := by
  unfold lowC
  rw [List.countP_eq_zero]
  intro m hm
  obtain ⟨l, hl, rfl⟩ := List.mem_map.mp hm
  have := h l hl
  rw [decide_eq_true_eq]
  omega
/-! ### sizes -/
theorem mem_bnds {T : Type} {l : List T} {g : T → Int} {lo hi : Int} (h : ∀ x ∈ l, lo ≤ g x ∧ g x ≤ hi) : ∀ y ∈ l.map g, lo ≤ y ∧ y ≤ hi := fun y hy => by
  obtain ⟨x, hx, rfl⟩ := List.mem_map.mp hy
  exact h x hx
theorem bnds_S {wb : Web} {ds : List Nat} (A : Away wb 0 ds) (st : Int) {s : Int} (h1 : 0 ≤ s) (h2 : s ≤ 60) : Bnds wb.1 (lowS st ds) (highS s (lowS st ds)) := by
  refine ⟨by unfold lowS; rw [List.length_map, A.len], by unfold highS lowS; rw [List.length_map, List.length_map, A.len], ?_, ?_⟩
  · exact mem_bnds fun d _ => by omega
  · refine mem_bnds fun x _ => ?_
    omega
theorem cap_S {wb : Web} {ds : List Nat} (A : Away wb 0 ds) (ok : WebOK wb) (st : Int) {s : Int} (h1 : 0 ≤ s) (h2 : s ≤ 8) : Cap wb (lowS st ds) (highS s (lowS st ds)) := fun ns N f hf => by
  have h9 := ok.nine
  left
  have hp := parts_le (ns := ns) (low := lowS st ds) (high := highS s (lowS st ds)) (c := 5) (by omega) (n := wb.1) (fun i hi => by
    rw [lowS_get (by rw [A.len]; exact hi), highS_get (by rw [A.len]; exact hi)]
    omega) (f + 1) (by omega)
  have : (5 : Nat) ^ (f + 1) ≤ 5 ^ 9 := Nat.pow_le_pow_right (by omega) (by omega)
  have e : (5 : Nat) ^ 9 = 1953125 := by decide
  omega
theorem bnds_B {wb : Web} {d1 d2 : List Nat} (A1 : Away wb 0 d1) (A2 : Away wb 0 d2) (ok : WebOK wb) {least : Int} (h1 : -60 ≤ least) (h2 : least ≤ 0) : Bnds wb.1 (floorB least d1) (highB d2) := by
  have h9 := ok.nine
  refine ⟨by unfold floorB lowB; rw [List.length_map, List.length_map, A1.len], by unfold highB; rw [List.length_map, A2.len], ?_, ?_⟩
  · unfold floorB lowB
    rw [List.map_map]
    refine mem_bnds fun d hd => ?_
    have := away_mem A1 hd
    show _ ≤ floor1 least (0 - (d : Int)) ∧ floor1 least (0 - (d : Int)) ≤ _
    unfold floor1
    split <;> omega
  · refine mem_bnds fun d hd => ?_
    have := away_mem A2 hd
    omega
theorem parts_one {ns : List (List Nat)} {low high : List Int} (h : high.getD 0 0 ≤ low.getD 0 0) : (parts ns low high 1).length ≤ 1 := by
  show (([[]] : List (List Int)).flatMap (stepP ns low high 0)).length ≤ 1
  rw [List.flatMap_cons, List.flatMap_nil, List.append_nil]
  unfold stepP
  rw [List.length_map]
  have nd := choM_nodup 0 (fun u => ([] : List Int).getD u 0) (ns.getD 0 []) (low.getD 0 0) (high.getD 0 0)
  have hm : ∀ y ∈ choM 0 (fun u => ([] : List Int).getD u 0) (ns.getD 0 []) (low.getD 0 0) (high.getD 0 0), y = low.getD 0 0 := fun y hy => by
    have := (mem_choM.mp hy).1
    omega
  generalize choM 0 (fun u => ([] : List Int).getD u 0) (ns.getD 0 []) (low.getD 0 0) (high.getD 0 0) = l at nd hm
  match l, nd, hm with
  | [], _, _ => exact Nat.zero_le _
  | [x], _, _ => exact Nat.le_refl _
  | x :: y :: t, nd, hm =>
    exfalso
    rw [List.nodup_cons] at nd
    refine nd.1 ?_
    rw [hm x (List.mem_cons_self ..), ← hm y (List.mem_cons_of_mem _ (List.mem_cons_self ..))]
    exact List.mem_cons_self ..
theorem parts_le1 {ns : List (List Nat)} {low high : List Int} {c : Nat} (h2 : 2 ≤ c) {n : Nat} (h1 : (parts ns low high 1).length ≤ 1) (hb : ∀ i, i < n → high.getD i 0 - low.getD i 0 < 2 * c) : ∀ f, f + 1 ≤ n → (parts ns low high (f + 1)).length ≤ c ^ f
  | 0, _ => h1
  | f + 1, h => by
    have ih := parts_le1 h2 h1 hb f (by omega)
    have step : ∀ l : List (List Int), (l.flatMap (stepP ns low high (f + 1))).length ≤ c * l.length := fun l => by
      induction l with
      | nil => exact Nat.le_refl _
      | cons p r ihr =>
        rw [List.flatMap_cons, List.length_append, List.length_cons, Nat.mul_succ]
        have : (stepP ns low high (f + 1) p).length ≤ c := by
          unfold stepP
          rw [List.length_map]
          exact choM_len h2 (hb (f + 1) (by omega))
        omega
    have := step (parts ns low high (f + 1))
    rw [Nat.pow_succ, Nat.mul_comm]
    exact Nat.le_trans this (Nat.mul_le_mul_left c ih)
theorem kept_last {wb : Web} {ns : List (List Nat)} (N : NearsOK wb ns) (wf : WebForm wb) {f : Nat} (h : f + 1 = wb.1) : keptM ns f = [] := by
  refine List.eq_nil_iff_forall_not_mem.mpr fun u hu => ?_
  obtain ⟨h1, h2⟩ := mem_kept.mp hu
  obtain ⟨v, ha, hv⟩ := (behind_iff N (by omega)).mp h2
  have := (wf.adj ha).2.1
  omega
theorem cap_B {wb : Web} {d1 d2 : List Nat} (A1 : Away wb 0 d1) (A2 : Away wb 0 d2) (ok : WebOK wb) {least : Int} (h2 : least ≤ 0) : Cap wb (floorB least d1) (highB d2) := fun ns N f hf => by
  have h9 := ok.nine
  have hlo := ok.form.lo
  have l1 := A1.len
  have l2 := A2.len
  by_cases c : f + 1 = wb.1
  · exact .inr (kept_last N ok.form c)
  · left
    have h0 : (highB d2).getD 0 0 ≤ (floorB least d1).getD 0 0 := by
      rw [floorB_get (by omega), highB_get (by omega), away0 A1, away0 A2]
      unfold floor1
      split <;> omega
    have hp := parts_le1 (ns := ns) (low := floorB least d1) (high := highB d2) (c := 9) (by omega) (n := wb.1) (parts_one h0) (fun i hi => by
      have a1 := away_lt A1 (get_getD 0 (show i < d1.length by omega))
      have a2 := away_lt A2 (get_getD 0 (show i < d2.length by omega))
      rw [floorB_get (by omega), highB_get (by omega)]
      unfold floor1
      split <;> omega) f (by omega)
    have : (9 : Nat) ^ f ≤ 9 ^ 7 := Nat.pow_le_pow_right (by omega) (by omega)
    have e : (9 : Nat) ^ 7 = 4782969 := by decide
    omega
end Tr
namespace Tr
open PySem PySem.Spec PyProof.Rows L2 Evl RZ
/-! ### the number within a span, whatever list of neighbors stands for the web -/
theorem start_bnds {wb : Web} {ds : List Nat} (A : Away wb 0 ds) {st s : Int} (hst : st = 0 ∨ st = 1) {p : List Int} (h1 : Lay wb p) (h2 : ∀ i, i < wb.1 → 0 ≤ p.getD i 0 ∧ p.getD i 0 ≤ s) (h3 : (p.getD 0 0 - st) % 2 = 0) : ∀ i, i < wb.1 → (lowS st ds).getD i 0 ≤ p.getD i 0 ∧ p.getD i 0 ≤ (highS s (lowS st ds)).getD i 0 := fun i hi => by
  have hlen := A.len
  have h4 := h2 i hi
  have h5 := (lay_dist A h1 _ i (get_getD 0 (by omega))).2
  rw [lowS_get (by omega), highS_get (by omega)]
  omega
def numP (L : List (List Int)) (s st : Int) : Nat := ((within L s).filter fun p => decide ((p.getD 0 0 - st) % 2 = 0)).length
theorem parts_numP {wb : Web} {ns : List (List Nat)} {ds : List Nat} {L : List (List Int)} (N : NearsOK wb ns) (A : Away wb 0 ds) (ok : WebOK wb) (AL : AllLays wb L) {st s : Int} (hst : st = 0 ∨ st = 1) : (parts ns (lowS st ds) (highS s (lowS st ds)) wb.1).length = numP L s st := by
  refine List.Perm.length_eq ((List.perm_ext_iff_of_nodup (parts_nodup ..) (List.Pairwise.filter _ (within_nodup ok.form AL s))).mpr fun p => ?_)
  rw [mem_start N A ok hst, List.mem_filter, mem_within ok.form AL, decide_eq_true_eq]
theorem numP_none {wb : Web} {ds : List Nat} {L : List (List Int)} (A : Away wb 0 ds) (ok : WebOK wb) (AL : AllLays wb L) {st s : Int} (hst : st = 0 ∨ st = 1) (h : ∃ i, i < wb.1 ∧ (highS s (lowS st ds)).getD i 0 < (lowS st ds).getD i 0) : numP L s st = 0 := by
  obtain ⟨i, hi, hlt⟩ := h
  have : (within L s).filter (fun p => decide ((p.getD 0 0 - st) % 2 = 0)) = [] := List.filter_eq_nil_iff.mpr fun p hp hq => by
    rw [decide_eq_true_eq] at hq
    obtain ⟨h1, h2⟩ := (mem_within ok.form AL p).mp hp
    have := start_bnds A hst h1 h2 hq i hi
    omega
  unfold numP
  rw [this]
  rfl
theorem numP_sum (L : List (List Int)) (s : Int) : (numP L s 0 : Int) + (numP L s 1 : Int) = numS L s := by
  rw [← within_len]
  unfold numP
  induction within L s with
  | nil => rfl
  | cons p r ih =>
    rw [List.filter_cons, List.filter_cons, List.length_cons]
    by_cases c : (p.getD 0 0 - 0) % 2 = 0
    · rw [if_pos (decide_eq_true c), if_neg (by rw [decide_eq_true_eq]; omega), List.length_cons]
      omega
    · rw [if_neg (by rw [decide_eq_true_eq]; exact c), if_pos (decide_eq_true (by omega)), List.length_cons]
      omega
/-- all(one <= other ..) says that no place is empty -/
theorem zip_all {low high : List Int} {n : Nat} (h1 : low.length = n) (h2 : high.length = n) : (low.zip high).all (fun x => decide (x.1 ≤ x.2)) = false → ∃ i, i < n ∧ high.getD i 0 < low.getD i 0 := by
  intro h
  rw [List.all_eq_false] at h
  obtain ⟨x, hx, hf⟩ := h
  obtain ⟨i, hi⟩ := List.getElem?_of_mem hx
  obtain ⟨a, b⟩ := List.getElem?_zip_eq_some.mp hi
  refine ⟨i, ?_, ?_⟩
  · have := (List.getElem?_eq_some_iff.mp a).1
    omega
  · rw [List.getD_eq_getElem?_getD, List.getD_eq_getElem?_getD, a, b]
    rw [decide_eq_true_eq] at hf
    show x.2 < x.1
    omega
section
variable {K : PySem.W.Frag} {σ : L2.St} {F F' H G H2 : Hp} {ta tb tc te tx tl : TE} {t u : TT} {T U W : Type} {R : Rp T} {S : Rp U} {P : T → Prop}
theorem evr_tupI2 {a b : Int} : EvR (rTup K rInt) (tTup (tCons (tC (.int a)) (tCons (tC (.int b)) tNil))) σ F [a, b] := fun H e Q q => ⟨by show 2 ≤ sizeLine; decide, fun p np => by
  have g4 := ((Grow.refl e).ex (Ex.new (o := .tup [.int a, .int b]) np)).put np upd_same
  exact q [a, b] _ _ _ rfl g4 ⟨p, _, rfl, SqT.of upd_same, .cons rfl (.cons rfl .nil)⟩⟩
/-- max of a list of ints none of which is below 0 -/
theorem evp_max {PL : List Nat → Prop} (h : EvP (rLst K rNat) PL te σ F) (hne : ∀ xs, PL xs → xs ≠ []) : EvP rNat (fun m => ∃ xs, PL xs ∧ m ∈ xs ∧ ∀ d ∈ xs, d ≤ m) (tCB (rMax K) (tCons te tNil)) σ F := fun H e Q q => p_cb (p_cons (h H e _ fun xs v G H2 px g r => p_nil (by
  obtain ⟨p, vs, rfl, hl, r⟩ := r
  have e1 := nats_of r
  rw [map_nV] at e1
  subst e1
  refine ⟨p, _, rfl, ex_l g.sub hl, ?_, fun m hm hmax => ?_⟩
  · rw [List.length_map]
    exact List.length_pos_iff.mpr (hne xs px)
  · obtain ⟨k, hk, rfl⟩ := List.mem_map.mp hm
    exact q k _ G H2 ⟨xs, px, hk, fun d hd => by have := hmax (d : Int) (List.mem_map.mpr ⟨d, hd, rfl⟩); omega⟩ g rfl)))
/-- all([one <= other for one, other in zip(a, b)]) -/
theorem ev_allLe {low high : List Int} {j l : Nat} {vs : List Nat} {ta tb : TE} (h1 : EvR (rTup K rInt) ta σ F low) (h2 : EvR (rTup K rInt) tb σ F high) (hz : low.length < 100000) (hw : ∀ v w, wipe (((wipe σ vs).set j (some v)).set l (some w)) vs = wipe σ vs)
    (hj : ∀ v w, (((wipe σ vs).set j (some v)).set l (some w))[j]? = some (some v)) (hl : ∀ v w, (((wipe σ vs).set j (some v)).set l (some w))[l]? = some (some w)) :
    Ev (tCB (rAll K) (tCons (tLc (iZipA K (tCons ta (tCons tb tNil))) (gPair K j l) tYes (tOp (rI0 fun i j => .bl (decide (i ≤ j))) (tVar j) (tVar l)) vs) tNil)) σ F (.bl ((low.zip high).all fun x => decide (x.1 ≤ x.2))) :=
  ev_all (EvN.toR (K := K) (evn_lcZ (S2 := rBl) (fun _ => true) (fun x b => b = decide (x.1 ≤ x.2)) h1 h2 hz hw (fun _ _ _ _ _ _ _ _ => et_yes) fun x v w G hx _ eg ra rb => by
    cases (show v = .int x.1 from ra)
    cases (show w = .int x.2 from rb)
    exact evr_bl (ev_op (x := .int x.1) (y := .int x.2) (ev_var (hj _ _)) (ev_var (hl _ _)) rv_I0))) fun bs mb => by
    have e := made_map (fn := fun x : Int × Int => decide (x.1 ≤ x.2)) mb
    rw [List.filter_eq_self.mpr fun _ _ => rfl] at e
    rw [e, List.all_map]
    rfl
end
section
variable {P : Program} {w : World} {K : PySem.W.Frag} {mg : Str → Option Value} {base : Heap}
/-! ### width_of -/
def WideOK (wb : Web) (W : Nat) : Prop := W < wb.1 ∧ ∀ f, f < wb.1 → ∃ ds, Away wb f ds ∧ ∀ d ∈ ds, d ≤ W
def spWidth (K : PySem.W.Frag) : Sp := fun vs H Q _ => ∃ (F : Hp) (v : V) (wb : Web), vs = [v] ∧ Ex F H ∧ rWeb K F v wb ∧ WebOK wb ∧ ∀ W H2, WideOK wb W → Ex H H2 → Q (.int (W : Int)) H2
theorem sc_width_of : FnScope ["web", "field"] ["web"] (defScope (top 32)) := ⟨rfl, rfl, rfl, by decide +kernel, rfl, by decide +kernel, by decide +kernel⟩
theorem c_width_of (D : Def K mg "width_of" (top 32) ["web"]) (B : Bi mg) (c_reach_of : Cal P w K mg base 2 "reach_of" (spReach K)) : Cal P w K mg base 3 "width_of" (spWidth K) := by
  refine D.cal sc_width_of (fun vs H Q E h => ?_) (fun fa cdv A outer s H vs Q E hr h => ?_)
  · obtain ⟨F, v, wb, rfl, _⟩ := h
    rfl
  · obtain ⟨F, v, wb, rfl, e, hw, ok, q⟩ := h
    refine ⟨_, (pss_one (ps_ret (pe_callB (cr_max' K rfl) (by rfl) B.max (by decide +kernel) (pa_cons (pe_lc (own := [("field", 1)]) rfl sc_width_of.nd (pi_range1 (by rfl) B.range (pa_cons (pe_ix (ix_tup' K) (pv 0) pe_int (fun _ _ => rfl)) pa_nil)) (blkOk_by (N := ["web", "field"]) (sc := defScope (top 32)) (by decide +kernel)) (fun _ _ _ _ _ => (pg_name (i := 1) sc_width_of.nd rfl (.inl rfl))) (fun _ _ _ _ _ => pts_nil) (fun _ _ _ _ _ => (pe_callB (cr_max' K rfl) (by rfl) B.max (by decide +kernel) (pa_cons (pe_k c_reach_of hr (by decide) (by rfl) (pa_cons (pv 0) (pa_cons (pv 1) pa_nil))) pa_nil)))) pa_nil)))), ?_⟩
    have h9 := ok.nine
    have hlo := ok.form.lo
    refine s_ret (evp_max (K := K) (EvN.toR (K := K) (evn_lcR (S := rNat) (n := wb.1) (j := 1) (fun _ => true) (fun f m => ∃ ds, Away wb f ds ∧ m ∈ ds ∧ ∀ d ∈ ds, d ≤ m) (ev_nat (web0 (Ex.refl F) hw rfl)) (by omega) (fun _ => rfl) (fun _ _ _ _ => et_yes)
      (fun f G hf _ eg => evp_max (K := K) (evp_reach ok hf (evr_var rfl (Mono.mono eg hw)) (ev_var rfl)) fun xs hA z => by have := hA.len; rw [z] at this; simp at this; omega))) fun xs mb z => by
        unfold Made at mb
        rw [List.filter_eq_self.mpr fun _ _ => rfl] at mb
        have := Paired.length mb
        rw [z, List.length_range] at this
        simp at this
        omega) e fun m v2 G H2 ⟨xs, mb, hm, hmax⟩ g r => ?_
    cases (show v2 = .int (m : Int) from r)
    unfold Made at mb
    rw [List.filter_eq_self.mpr fun _ _ => rfl] at mb
    refine q m H2 ⟨?_, fun f hf => ?_⟩ g.act
    · obtain ⟨i, hi⟩ := List.getElem?_of_mem hm
      obtain ⟨f, _, ds, hA, hmd, _⟩ := paired_get mb hi
      exact away_mem hA hmd
    · obtain ⟨y, hy, ds, hA, hmd, hm2⟩ := L2.DX.pget mb (List.getElem?_range hf)
      exact ⟨ds, hA, fun d hd => Nat.le_trans (hm2 d hd) (hmax y (List.mem_of_getElem? hy))⟩
end
end Tr
namespace Tr
open PySem PySem.Spec PyProof.Rows L2 Evl RZ
section
variable {P : Program} {w : World} {K : PySem.W.Frag} {mg : Str → Option Value} {base : Heap}
def spNumSpan (K : PySem.W.Frag) : Sp := fun vs H Q _ => ∃ (F : Hp) (v : V) (wb : Web) (L : List (List Int)) (s : Nat), vs = [v, .int (s : Int)] ∧ Ex F H ∧ rWeb K F v wb ∧ WebOK wb ∧ AllLays wb L ∧ s ≤ 8 ∧ ∀ H2, Ex H H2 → Q (.int (numS L (s : Int))) H2
theorem sc_number_of_span : FnScope ["web", "span", "found", "told", "start", "low", "high", "many", "height", "one", "other"] ["web", "span"] (defScope (top 30)) := ⟨rfl, rfl, rfl, by decide +kernel, rfl, by decide +kernel, by decide +kernel⟩
theorem c_number_of_span (D : Def K mg "number_of_span" (top 30) ["web", "span"]) (B : Bi mg) (c_reach_of : Cal P w K mg base 2 "reach_of" (spReach K)) (c_number_within : Cal P w K mg base 3 "number_within" (spNumber K)) : Cal P w K mg base 4 "number_of_span" (spNumSpan K) := by
  refine D.cal sc_number_of_span (fun vs H Q E h => ?_) (fun fa cdv A outer s H vs Q E hr h => ?_)
  · obtain ⟨F, v, wb, L, s, rfl, _⟩ := h
    rfl
  · obtain ⟨F, v, wb, L, s, rfl, e, hw, ok, AL, hs, q⟩ := h
    refine ⟨_, (pss_cons (ps_par (i := 2) (j := 3) rfl sc_number_of_span.nd rfl rfl (by decide) rfl rfl (pa_cons pe_int (pa_cons (pe_k c_reach_of hr (by decide) (by rfl) (pa_cons (pv 0) (pa_cons pe_int pa_nil))) pa_nil)) (by rfl))
      (pss_cons (ps_for PassesOwn.never rfl (pi_tup' K (pe_tup (pa_cons pe_int (pa_cons pe_int pa_nil)))) (pg_name (i := 4) sc_number_of_span.nd rfl (.inr rfl))
       ((pss_cons (ps_set (i := 5) sc_number_of_span.nd rfl (.inl rfl) (pe_callTy (call_tuple' K) (by rfl) B.tuple_ (by decide +kernel) (pa_cons (pe_lc (own := [("many", 7)]) rfl sc_number_of_span.nd (pi_list' K (pv 3)) (blkOk_by (N := ["web", "span", "found", "told", "start", "low", "high", "many", "height", "one", "other"]) (sc := defScope (top 30)) (by decide +kernel)) (fun _ _ _ _ _ => (pg_name (i := 7) sc_number_of_span.nd rfl (.inl rfl))) (fun _ _ _ _ _ => pts_nil) (fun _ _ _ _ _ => (pe_op op_mod (pe_op op_add (pv 4) (pv 7)) pe_int))) pa_nil)))
       (pss_cons (ps_set (i := 6) sc_number_of_span.nd rfl (.inl rfl) (pe_callTy (call_tuple' K) (by rfl) B.tuple_ (by decide +kernel) (pa_cons (pe_lc (own := [("height", 8)]) rfl sc_number_of_span.nd (pi_tup' K (pv 5)) (blkOk_by (N := ["web", "span", "found", "told", "start", "low", "high", "many", "height", "one", "other"]) (sc := defScope (top 30)) (by decide +kernel)) (fun _ _ _ _ _ => (pg_name (i := 8) sc_number_of_span.nd rfl (.inl rfl))) (fun _ _ _ _ _ => pts_nil) (fun _ _ _ _ _ => (pe_op op_sub (pv 1) (pe_op op_mod (pe_op op_sub (pv 1) (pv 8)) pe_int)))) pa_nil)))
       (pss_one (ps_if (pt_val (pe_callB (cr_all' K rfl) (by rfl) B.all (by decide +kernel) (pa_cons (pe_lc (own := [("one", 9), ("other", 10)]) rfl sc_number_of_span.nd (pi_zip' K (by rfl) B.zip (pa_cons (pv 5) (pa_cons (pv 6) pa_nil))) (blkOk_by (N := ["web", "span", "found", "told", "start", "low", "high", "many", "height", "one", "other"]) (sc := defScope (top 30)) (by decide +kernel)) (fun _ _ _ _ _ => (pg_tup' (n := 2) K rfl (pgs_cons (pg_name (i := 9) sc_number_of_span.nd rfl (.inl rfl)) (pgs_cons (pg_name (i := 10) sc_number_of_span.nd rfl (.inl rfl)) pgs_nil)))) (fun _ _ _ _ _ => pts_nil) (fun _ _ _ _ _ => (pe_cmpR op_le (pv 9) (pv 10) (nomark _)))) pa_nil)))
        ((pss_one (ps_aug (i := 2) sc_number_of_span.nd rfl (.inl rfl) (pe_k c_number_within hr (by decide) (by rfl) (pa_cons (pv 0) (pa_cons (pv 5) (pa_cons (pv 6) pa_nil)))) ip_add)))
        (pss_nil)))))))
      (pss_one (ps_ret (pv 2))))), ?_⟩
    have h9 := ok.nine
    have hlo := ok.form.lo
    refine q_par (p_cons (p_c (p_cons ((evp_reach (f := 0) ok (show 0 < wb.1 by omega) (evr_var rfl hw) ev_c) H e _ fun ds vd G1 H1 hA g1 rd => p_nil ⟨_, _, rfl, ?_⟩))))
    have hlen := hA.len
    have acc : Nat → Int := fun i => match i with
      | 0 => 0
      | 1 => (numP L s 0 : Int)
      | _ => numS L s
    refine q_for_tpl (F := G1) (R := rInt) (xs := [0, 1]) evr_tupI2 g1.sub (fun G i σ' H' => Ex G H' ∧ Ex H H' ∧ ∃ (y4 y5 y6 y7 y8 y9 y10 : Option V) (c : Int), σ' = [some v, some (.int (s : Int)), some (.int c), some vd, y4, y5, y6, y7, y8, y9, y10] ∧ (i = 0 → c = 0) ∧ (i = 1 → c = (numP L s 0 : Int)) ∧ (i = 2 → c = numS L s))
      (fun G i σ' H' z => z.1) (fun G H2 g => ⟨g.sub, g1.act.trans g.act, _, _, _, _, _, _, _, 0, rfl, fun _ => rfl, fun z => (by cases z), fun z => (by cases z)⟩)
      (fun G i st vst σ' H' eg hst rst ⟨xG, xH, y4, y5, y6, y7, y8, y9, y10, c, hσ, c0, c1, c2⟩ => ?_) (fun G σ' H' eg ⟨xG, xH, y4, y5, y6, y7, y8, y9, y10, c, hσ, c0, c1, c2⟩ => ?_)
    · subst hσ
      cases (show vst = .int st from rst)
      have hst01 : st = 0 ∨ st = 1 := by
        match i, hst with
        | 0, h => exact .inl (Option.some.inj h).symm
        | 1, h => exact .inr (Option.some.inj h).symm
      refine g_name ?_
      -- low
      refine q_set (F := G) (R := rTup K rInt) (P := fun ys => ys = lowS st ds) ((evp_tupL (EvN.toR (K := K) (evn_lcL (S := rInt) (j := 7) (fun _ => true) (fun (d : Nat) y => y = (st + (d : Int)) % 2) (PL := fun xs => xs = ds) (evr_var rfl (Mono.mono eg rd)) (fun xs h => by rw [h]; omega) (fun _ => rfl) (fun _ _ _ _ _ _ _ _ => et_yes)
        (fun xs d a G2 hxs hx _ eg2 ra => by
          cases (show a = .int (d : Int) from ra)
          exact evr_int (ev_op (x := .int (st + (d : Int))) (y := .int 2) (ev_op (x := .int st) (y := .int (d : Int)) (ev_var rfl) (ev_var rfl) rv_I0) ev_c (rv_I (by omega))))))).imp fun ys ⟨xs, hxs, mb⟩ => by
            have := made_map (fn := fun (d : Nat) => (st + (d : Int)) % 2) mb
            rw [List.filter_eq_self.mpr fun _ _ => rfl, hxs] at this
            exact this) xG fun low lv G2 H2 hlow g2 rl => ?_
      subst hlow
      -- high
      refine q_set (F := G2) (R := rTup K rInt) (P := fun ys => ys = highS s (lowS st ds)) ((evp_tupL (EvN.toR (K := K) (evn_lcT (S := rInt) (j := 8) (fun _ => true) (fun (h : Int) y => y = (s : Int) - ((s : Int) - h) % 2) (PL := fun xs => xs = lowS st ds) (evr_var rfl rl) (fun xs h => by rw [h]; unfold lowS; rw [List.length_map]; omega) (fun _ => rfl) (fun _ _ _ _ _ _ _ _ => et_yes)
        (fun xs d a G3 hxs hx _ eg2 ra => by
          cases (show a = .int d from ra)
          exact evr_int (ev_op (x := .int (s : Int)) (y := .int (((s : Int) - d) % 2)) (ev_var rfl) (ev_op (x := .int ((s : Int) - d)) (y := .int 2) (ev_op (x := .int (s : Int)) (y := .int d) (ev_var rfl) (ev_var rfl) rv_I0) ev_c (rv_I (by omega))) rv_I0))))).imp fun ys ⟨xs, hxs, mb⟩ => by
            have := made_map (fn := fun (h : Int) => (s : Int) - ((s : Int) - h) % 2) mb
            rw [List.filter_eq_self.mpr fun _ _ => rfl, hxs] at this
            exact this) g2.sub fun high hv G3 H3 hhigh g3 rh => ?_
      subst hhigh
      have rl3 := Mono.mono g3.fz rl
      have l1 : (lowS st ds).length = wb.1 := by unfold lowS; rw [List.length_map, hlen]
      have l2 : (highS s (lowS st ds)).length = wb.1 := by unfold highS; rw [List.length_map, l1]
      have hx3 : Ex H H3 := xH.trans (g2.act.trans g3.act)
      have hw3 : rWeb K G3 v wb := Mono.mono (g1.fz.trans (eg.trans (g2.fz.trans g3.fz))) hw
      -- what is added
      have add : ∀ (H4 : Hp), Ex H3 H4 → ∀ (c' : Int), c' = c + (numP L s st : Int) → ∀ σ2 : L2.St, σ2 = [some v, some (.int (s : Int)), some (.int c'), some vd, some (.int st), some lv, some hv, y7, y8, y9, y10] → (Ex G H4 ∧ Ex H H4 ∧ ∃ (y4 y5 y6 y7 y8 y9 y10 : Option V) (c2 : Int), σ2 = [some v, some (.int (s : Int)), some (.int c2), some vd, y4, y5, y6, y7, y8, y9, y10] ∧ (i + 1 = 0 → c2 = 0) ∧ (i + 1 = 1 → c2 = (numP L s 0 : Int)) ∧ (i + 1 = 2 → c2 = numS L s)) := fun H4 x4 c' hc' σ2 hσ2 => by
        refine ⟨(g2.fz.trans g3.fz).trans (g3.sub.trans x4), hx3.trans x4, some (.int st), some lv, some hv, y7, y8, y9, y10, c', hσ2, fun z => (by omega), fun z => ?_, fun z => ?_⟩
        · have hi : i = 0 := by omega
          subst hi
          have hst0 : st = 0 := (Option.some.inj hst).symm
          rw [hc', c0 rfl, hst0]
          omega
        · have hi : i = 1 := by omega
          subst hi
          have hst1 : st = 1 := (Option.some.inj hst).symm
          rw [hc', c1 rfl, hst1]
          exact numP_sum L s
      refine s_ifB (F := G3) (et_B (ev_allLe (K := K) (evr_var rfl rl3) (evr_var rfl rh) (by omega) (fun _ _ => rfl) (fun _ _ => rfl) (fun _ _ => rfl))) g3.sub (fun hb H4 x4 => ?_) (fun hb H4 x4 => ?_)
      · refine s_augI (F := G3) (a := c) (d := (numP L s st : Int)) rfl (fun H5 x5 Q q => p_call (p_cons (p_var rfl (p_cons (p_var rfl (p_cons (p_var rfl (p_nil ⟨G3, v, lv, hv, wb, lowS st ds, highS s (lowS st ds), rfl, x5, hw3, ok, rl3, rh, bnds_S hA st (by omega) (by omega), cap_S hA ok st (by omega) (by omega), fun ns H6 hN x6 => ?_⟩)))))))) (g3.sub.trans x4) fun H5 x5 => add H5 (x4.trans x5) _ rfl _ rfl
        rw [parts_numP hN hA ok AL hst01]
        exact q H6 x6
      · refine s_next (add H4 x4 c ?_ _ rfl)
        rw [numP_none hA ok AL hst01 (zip_all l1 l2 hb)]
        omega
    · subst hσ
      have := c2 rfl
      subst this
      exact s_retV (F := H') (v := .int (numS L s)) (ev_var rfl) (Ex.refl H') fun H3 x3 => q H3 (xH.trans x3)
end
end Tr
namespace Tr
open PySem PySem.Spec PyProof.Rows L2 Evl RZ
section
variable {K : PySem.W.Frag} {σ : L2.St} {F F' H G H2 : Hp} {ta tb tc te tx tl : TE} {t u : TT} {T U W : Type} {R : Rp T} {S : Rp U} {P : T → Prop} {D : Ends} {g : TG} {ts u2 : TS}
/-- for i in range(m), m told by P -/
theorem q_for_rngP {P : Nat → Prop} (h : EvP rNat P te σ F) (e : Ex F H) (hm : ∀ m, P m → m < 100000) (Pv : Nat → Nat → L2.St → Hp → Prop) (h0 : ∀ m H2, P m → Ex H H2 → Pv m 0 σ H2)
    (hs : ∀ m i σ' H', P m → i < m → Pv m i σ' H' → g (.int (i : Int)) σ' H' fun σ2 H2 => ts ⟨Pv m (i + 1), D.rt, u2 D, Pv m (i + 1)⟩ σ2 H2) (hd : ∀ m σ' H', P m → Pv m m σ' H' → u2 D σ' H') :
    tSeq (tFor (iRng1 (tCons te tNil)) g ts) u2 D σ H := h H e _ fun m v G H2 pm gr r => ⟨(m : Int), by cases (show v = .int (m : Int) from r); rfl, by omega, by have := hm m pm; omega, by
  refine for_range (lo := 0) (n := (m : Int).toNat) (Pv m) (h0 m H2 pm gr.act) (fun i σ' H' hi p => ?_) (fun σ' H' p => ?_)
  · rw [Int.zero_add]
    exact hs m i σ' H' pm (by omega) p
  · rw [Int.toNat_natCast] at p
    exact hd m σ' H' pm p⟩
theorem ev_cellA {L : Addr} {ws : List V} {i : Int} {v : V} (h : H L = some (.lst ws)) (ha : Ev ta σ H (.ref L)) (hb : Ev tb σ H (.int i)) (hv : atI ws i = some v) : Ev (tOp (rIxL K) ta tb) σ H v := ev_op ha hb (rv_ixL (SqL.of h) hv)
theorem atI_map {T U : Type} (g : T → U) (l : List T) (i : Int) : atI (l.map g) i = (atI l i).map g := by
  unfold atI
  rw [List.length_map]
  cases ixN l.length i with
  | none => rfl
  | some j => exact List.getElem?_map
theorem atI_neg {T : Type} {l : List T} {k : Nat} (h1 : 1 ≤ k) (h2 : k ≤ l.length) : atI l (-(k : Int)) = l[l.length - k]? := by
  unfold atI ixN
  rw [if_neg (by omega), if_pos (by omega)]
  have e : (-(k : Int) + (l.length : Int)).toNat = l.length - k := by omega
  rw [e]
  rfl
end
def wholeL (L : List (List Int)) (i : Nat) : List Int := (List.range (i + 2)).map fun (j : Nat) => numS L ((j : Int) - 2)
theorem wholeL_succ (L : List (List Int)) (i : Nat) : wholeL L (i + 1) = wholeL L i ++ [numS L (i : Int)] := by
  unfold wholeL
  rw [List.range_succ, List.map_append]
  congr 2
  show [numS L (((i + 2 : Nat) : Int) - 2)] = [numS L (i : Int)]
  rw [show ((i + 2 : Nat) : Int) - 2 = (i : Int) by omega]
theorem wholeL_len (L : List (List Int)) (i : Nat) : (wholeL L i).length = i + 2 := by
  unfold wholeL
  rw [List.length_map, List.length_range]
theorem wholeL_at {L : List (List Int)} {i j : Nat} (h : j < i + 2) : (wholeL L i)[j]? = some (numS L ((j : Int) - 2)) := by
  unfold wholeL
  rw [List.getElem?_map, List.getElem?_range h]
  rfl
theorem upT_succ (xs : List Int) (i : Nat) : upT xs (i + 1) = if 0 < xs.count (i : Int) then upT xs i ++ [((i : Int), (xs.count (i : Int) : Int))] else upT xs i := by
  unfold upT
  rw [List.range_succ, List.filter_append, List.map_append]
  by_cases c : 0 < xs.count (i : Int)
  · rw [if_pos c, List.filter_cons_of_pos (by exact decide_eq_true c)]
    rfl
  · rw [if_neg c, List.filter_cons_of_neg (by rw [decide_eq_true_eq]; exact c)]
    show _ ++ [] = _
    rw [List.append_nil]
section
variable {P : Program} {w : World} {K : PySem.W.Frag} {mg : Str → Option Value} {base : Heap}
abbrev rII (K : PySem.W.Frag) : Rp (Int × Int) := rPr K rInt rInt
def spSpanT (K : PySem.W.Frag) : Sp := fun vs H Q _ => ∃ (F : Hp) (v : V) (wb : Web) (L : List (List Int)), vs = [v] ∧ Ex F H ∧ rWeb K F v wb ∧ WebOK wb ∧ AllLays wb L ∧
  ∀ t x G H2, IsTally (L.map spanI) t → (∀ p ∈ t, 0 ≤ p.1 ∧ p.1 ≤ 8) → Grow F H G H2 → rTup K (rII K) G x t → Q x H2
theorem sc_span_tally : FnScope ["web", "whole", "found", "span", "many"] ["web"] (defScope (top 31)) := ⟨rfl, rfl, rfl, by decide +kernel, rfl, by decide +kernel, by decide +kernel⟩
theorem c_span_tally (D : Def K mg "span_tally" (top 31) ["web"]) (B : Bi mg) (c_need_narrow : Cal P w K mg base 6 "need_narrow" (spNone K)) (c_width_of : Cal P w K mg base 3 "width_of" (spWidth K)) (c_number_of_span : Cal P w K mg base 4 "number_of_span" (spNumSpan K)) : Cal P w K mg base 7 "span_tally" (spSpanT K) := by
  refine D.cal sc_span_tally (fun vs H Q E h => ?_) (fun fa cdv A outer s H vs Q E hr h => ?_)
  · obtain ⟨F, v, wb, L, rfl, _⟩ := h
    rfl
  · obtain ⟨F, v, wb, L, rfl, e, hw, ok, AL, q⟩ := h
    refine ⟨_, (pss_cons (ps_expr (pe_k c_need_narrow hr (by decide) (by rfl) (pa_cons (pv 0) pa_nil)))
      (pss_cons (ps_par (i := 1) (j := 2) rfl sc_span_tally.nd rfl rfl (by decide) rfl rfl (pa_cons (pe_lst (pa_cons pe_int (pa_cons pe_int pa_nil))) (pa_cons (pe_lst pa_nil) pa_nil)) (by rfl))
      (pss_cons (ps_for PassesOwn.never rfl (pi_range1 (by rfl) B.range (pa_cons (pe_op op_add (pe_k c_width_of hr (by decide) (by rfl) (pa_cons (pv 0) pa_nil)) pe_int) pa_nil)) (pg_name (i := 3) sc_span_tally.nd rfl (.inl rfl))
       ((pss_cons (ps_expr (pe_bm' K PySem.F.plainAttrs_list PySem.F.slot_list_append PySem.F.type_list_append mt_append (pv 1) (pa_cons (pe_k c_number_of_span hr (by decide) (by rfl) (pa_cons (pv 0) (pa_cons (pv 3) pa_nil))) pa_nil)))
       (pss_cons (ps_set (i := 4) sc_span_tally.nd rfl (.inl rfl) (pe_op op_add (pe_op op_sub (pe_ix (ix_list' K) (pv 1) (pe_un un_neg pe_int) (fun _ _ => rfl)) (pe_op op_mul pe_int (pe_ix (ix_list' K) (pv 1) (pe_un un_neg pe_int) (fun _ _ => rfl)))) (pe_ix (ix_list' K) (pv 1) (pe_un un_neg pe_int) (fun _ _ => rfl))))
       (pss_one (ps_if (pt_cmpR op_gt (pv 4) pe_int (nomark _))
        ((pss_one (ps_expr (pe_bm' K PySem.F.plainAttrs_list PySem.F.slot_list_append PySem.F.type_list_append mt_append (pv 2) (pa_cons (pe_tup (pa_cons (pv 3) (pa_cons (pv 4) pa_nil))) pa_nil)))))
        (pss_nil)))))))
      (pss_one (ps_ret (pe_callTy (call_tuple' K) (by rfl) B.tuple_ (by decide +kernel) (pa_cons (pv 2) pa_nil))))))), ?_⟩
    have h9 := ok.nine
    have hlo := ok.form.lo
    have hsp : ∀ l ∈ L, 0 ≤ spanI l := fun l hl => span_ge ok.form ((AL.mem l).mp hl).1
    refine q_drop (F := F) (v := .non) (fun H1 e1 Q q => p_call (p_cons (p_var rfl (p_nil ⟨F, v, wb, rfl, e1, hw, ok, fun H2 x2 => q H2 x2⟩)))) e fun H1 x1 => ?_
    refine q_par (p_cons ⟨by show 2 ≤ sizeLine; decide, fun Lw nLw => p_cons ⟨Nat.zero_le _, fun Lf nLf => p_nil ⟨_, _, rfl, ?_⟩⟩⟩)
    have nd : Lf ≠ Lw := ne_cell upd_same nLf
    have g1 : Grow F H F (upd (upd H1 Lw (.lst [.int 0, .int 0])) Lf (.lst [])) := Grow.of e (x1.trans ((Ex.new nLw).trans (Ex.new nLf)))
    have fLw : F Lw = none := fresh_back (e.trans x1) nLw
    have HLw : H Lw = none := fresh_back x1 nLw
    have fLf : F Lf = none := fresh_back (e.trans (x1.trans (Ex.new nLw))) nLf
    have HLf : H Lf = none := fresh_back (x1.trans (Ex.new nLw)) nLf
    have cLw : (upd (upd H1 Lw (.lst [.int 0, .int 0])) Lf (.lst [])) Lw = some (.lst [.int 0, .int 0]) := keep_upd upd_same nd
    have cLf : (upd (upd H1 Lw (.lst [.int 0, .int 0])) Lf (.lst [])) Lf = some (.lst []) := upd_same
    generalize (upd (upd H1 Lw (.lst [.int 0, .int 0])) Lf (.lst [])) = H2 at g1 cLw cLf ⊢
    have hw0 : [V.int 0, .int 0] = (wholeL L 0).map V.int := by
      have e1 := numS_neg (L := L) (s := -2) fun l hl => by have := hsp l hl; omega
      have e2 := numS_neg (L := L) (s := -1) fun l hl => by have := hsp l hl; omega
      show _ = [V.int (numS L ((0 : Nat) - 2 : Int)), V.int (numS L ((1 : Nat) - 2 : Int))]
      rw [show (((0 : Nat) : Int) - 2) = -2 by omega, show (((1 : Nat) : Int) - 2) = -1 by omega, e1, e2]
    rw [hw0] at cLw
    refine q_for_rngP (F := F) (P := fun m => ∃ W, WideOK wb W ∧ m = W + 1) (fun H3 e3 Q q => p_op (p_call (p_cons (p_var rfl (p_nil ⟨F, v, wb, rfl, e3, hw, ok, fun W H4 hW x4 => p_c ⟨(W : Int), 1, rfl, rfl, q (W + 1) _ F H4 ⟨W, hW, rfl⟩ (Grow.of e3 x4) (by show V.int _ = V.int _; congr 1)⟩⟩))))) g1.sub
      (fun m ⟨W, hW, hm⟩ => by have := hW.1; omega)
      (fun m i σ' H' => ∃ (y3 y4 : Option V) (G : Hp) (us : List V), σ' = [some v, some (.ref Lw), some (.ref Lf), y3, y4] ∧ Grow F H G H' ∧ G Lw = none ∧ G Lf = none ∧ H' Lw = some (.lst ((wholeL L i).map V.int)) ∧ H' Lf = some (.lst us) ∧ rSeq (rII K) G us (upT (L.map spanI) i))
      (fun m H3 _ x3 => ⟨_, _, F, [], rfl, g1.ex x3, fLw, fLf, x3 _ _ cLw, x3 _ _ cLf, .nil⟩)
      (fun m i σ' H' ⟨W, hW, hm⟩ hi ⟨y3, y4, G, us, hσ, g, gLw, gLf, hLw, hLf, hus⟩ => ?_) (fun m σ' H' ⟨W, hW, hm⟩ ⟨y3, y4, G, us, hσ, g, gLw, gLf, hLw, hLf, hus⟩ => ?_)
    · subst hσ
      have hW1 := hW.1
      refine g_name ?_
      refine q_appendV (l := Lw) (v := .int (numS L (i : Int))) hLw (ev_var rfl) (fun H3 e3 Q q => p_call (p_cons (p_var rfl (p_cons (p_var rfl (p_nil ⟨G, v, wb, L, i, rfl, g.sub.trans e3, Mono.mono g.fz hw, ok, AL, by omega, fun H4 x4 => q H4 x4⟩)))))) (by rw [List.length_map, wholeL_len]; omega) fun H3 x3 => ?_
      have ew : (wholeL L i).map V.int ++ [.int (numS L (i : Int))] = (wholeL L (i + 1)).map V.int := by
        rw [wholeL_succ, List.map_append]
        rfl
      rw [ew]
      have g3 := (g.ex x3).wr (o := .lst ((wholeL L (i + 1)).map V.int)) gLw HLw
      have dLw : (upd H3 Lw (.lst ((wholeL L (i + 1)).map V.int))) Lw = some (.lst ((wholeL L (i + 1)).map V.int)) := upd_same
      have dLf := keep_upd (u := .lst ((wholeL L (i + 1)).map V.int)) (x3 _ _ hLf) (fun z => nd z.symm)
      generalize (upd H3 Lw (.lst ((wholeL L (i + 1)).map V.int))) = H4 at g3 dLw dLf ⊢
      have at_ : ∀ k : Nat, 1 ≤ k → k ≤ 3 → atI ((wholeL L (i + 1)).map V.int) (-(k : Int)) = some (.int (numS L ((i : Int) - k + 1))) := fun k h1 h3 => by
        rw [atI_map, atI_neg h1 (by rw [wholeL_len]; omega), wholeL_len, wholeL_at (by omega)]
        show some (V.int _) = some (V.int _)
        congr 3
        omega
      have neg : ∀ {σ2 : L2.St} (k : Int), Ev (tUn (rU fun i => .int (-i)) (tC (.int k))) σ2 H4 (.int (-k)) := fun k => ev_un ev_c ru_neg
      have cnt := second_diff (i : Int) L
      refine q_setV (F := H4) (v := .int ((L.map spanI).count (i : Int) : Int)) (ev_to (ev_op (x := .int (numS L (i : Int) - 2 * numS L ((i : Int) - 1))) (y := .int (numS L ((i : Int) - 2))) (ev_op (x := .int (numS L (i : Int))) (y := .int (2 * numS L ((i : Int) - 1))) (ev_cellA dLw (ev_var rfl) (neg 1) (by rw [show (-(1 : Int)) = -((1 : Nat) : Int) from rfl, at_ 1 (by omega) (by omega)]; congr 3; omega))
        (ev_op (x := .int 2) (y := .int (numS L ((i : Int) - 1))) ev_c (ev_cellA dLw (ev_var rfl) (neg 2) (by rw [show (-(2 : Int)) = -((2 : Nat) : Int) from rfl, at_ 2 (by omega) (by omega)]; congr 3; omega)) (rv_I (.inl ⟨by decide, by decide⟩))) rv_I0)
        (ev_cellA dLw (ev_var rfl) (neg 3) (by rw [show (-(3 : Int)) = -((3 : Nat) : Int) from rfl, at_ 3 (by omega) (by omega)]; congr 3; omega)) rv_I0) (by rw [← cnt])) (Ex.refl H4) fun H5 x5 => ?_
      refine s_ifB (F := H5) (et_test (ev_op (x := .int ((L.map spanI).count (i : Int) : Int)) (y := .int 0) (ev_var rfl) ev_c rv_I0)) (Ex.refl H5) (fun hb H6 x6 => ?_) (fun hb H6 x6 => ?_)
      · have hpos : 0 < (L.map spanI).count (i : Int) := by
          have := of_decide_eq_true hb
          omega
        refine s_append (F := G) (l := Lf) (R := rII K) (P := fun p => p = ((i : Int), ((L.map spanI).count (i : Int) : Int))) (x6 _ _ (x5 _ _ dLf)) gLf (ev_var rfl) (evr_pair (evr_int (ev_var rfl)) (evr_int (ev_var rfl))) (g3.sub.trans (x5.trans x6)) (by
          have := seq_len hus
          have h2 : (upT (L.map spanI) i).length ≤ i := by
            unfold upT
            rw [List.length_map]
            refine Nat.le_trans (List.length_filter_le _ _) ?_
            rw [List.length_range]
            exact Nat.le_refl _
          omega) fun p pv G2 H7 hp g7 gLf2 rp => ?_
        subst hp
        have g8 := ((g3.ex (x5.trans x6)).trans g7).wr (o := .lst (us ++ [pv])) gLf2 HLf
        refine ⟨_, _, G2, us ++ [pv], rfl, g8, g7.gone gLw (x6 _ _ (x5 _ _ dLw)), gLf2, keep_upd (g7.act _ _ (x6 _ _ (x5 _ _ dLw))) nd, upd_same, ?_⟩
        rw [upT_succ, if_pos hpos]
        exact seq_app rp (seq_mono g7.fz hus)
      · have hpos : ¬ 0 < (L.map spanI).count (i : Int) := by
          have := of_decide_eq_false hb
          omega
        refine s_next ⟨_, _, G, us, rfl, g3.ex (x5.trans x6), gLw, gLf, x6 _ _ (x5 _ _ dLw), x6 _ _ (x5 _ _ dLf), ?_⟩
        rw [upT_succ, if_neg hpos]
        exact hus
    · subst hσ
      have g3 := g.put HLf hLf
      refine s_ret (evp_tupL (K := K) (R := rII K) (PL := fun ys => ys = upT (L.map spanI) m) (evr_var rfl ⟨Lf, us, rfl, SqL.of upd_same, seq_mono (Ex.new gLf) hus⟩)) g3.sub fun ys x G3 H3 hy g4 r => ?_
      subst hy
      have hx : ∀ x ∈ L.map spanI, 0 ≤ x ∧ x < (m : Int) := fun x hx => by
        obtain ⟨l, hl, rfl⟩ := List.mem_map.mp hx
        have h1 := ((AL.mem l).mp hl).1
        have h2 := span_le ok.form h1 hW.2
        have h3 := hsp l hl
        omega
      refine q _ x G3 H3 (upT_tally hx) (fun p hp => ?_) (g3.trans g4) r
      unfold upT at hp
      obtain ⟨s, hs, rfl⟩ := List.mem_map.mp hp
      have := List.mem_range.mp (List.mem_filter.mp hs).1
      have := hW.1
      show (0 : Int) ≤ (s : Int) ∧ (s : Int) ≤ 8
      omega
end
end Tr
namespace Tr
open PySem PySem.Spec PyProof.Rows L2 Evl RZ
def spanSum (L : List (List Int)) : Nat := (L.map spanI).sum.toNat
theorem rise_len {N : Nat} {us : List Int} (h : us.Pairwise (· < ·)) (hb : ∀ u ∈ us, 0 ≤ u ∧ u < (N : Int)) : us.length ≤ N := by
  have h1 := nodup_lt_len N (us.map Int.toNat) (nodup_map (rise_nodup h) fun x hx y hy e => by
    have := hb x hx
    have := hb y hy
    omega) fun x hx => by
    obtain ⟨u, hu, rfl⟩ := List.mem_map.mp hx
    have := hb u hu
    omega
  rw [List.length_map] at h1
  exact h1
theorem sum_nonneg : ∀ {l : List Int}, (∀ x ∈ l, 0 ≤ x) → 0 ≤ l.sum
  | [], _ => Int.le_refl _
  | x :: r, h => by
    rw [List.sum_cons]
    have := h x (List.mem_cons_self ..)
    have := sum_nonneg fun y hy => h y (List.mem_cons_of_mem _ hy)
    omega
theorem spanSum_cast {wb : Web} (wf : WebForm wb) {L : List (List Int)} (AL : AllLays wb L) : ((spanSum L : Nat) : Int) = (L.map spanI).sum := by
  unfold spanSum
  have := sum_nonneg (l := L.map spanI) fun x hx => by
    obtain ⟨l, hl, rfl⟩ := List.mem_map.mp hx
    exact span_ge wf ((AL.mem l).mp hl).1
  omega
section
variable {P : Program} {w : World} {K : PySem.W.Frag} {mg : Str → Option Value} {base : Heap}
def spMean (K : PySem.W.Frag) : Sp := fun vs H Q _ => ∃ (F : Hp) (v : V) (wb : Web) (L : List (List Int)), vs = [v] ∧ Ex F H ∧ rWeb K F v wb ∧ WebOK wb ∧ AllLays wb L ∧ L.length < 1000000 ∧
  ∀ x G H2, Grow F H G H2 → rII K G x (low2 (spanSum L) L.length) → Q x H2
theorem sc_mean_span : FnScope ["web", "told", "span", "many"] ["web"] (defScope (top 33)) := ⟨rfl, rfl, rfl, by decide +kernel, rfl, by decide +kernel, by decide +kernel⟩
theorem c_mean_span (D : Def K mg "mean_span" (top 33) ["web"]) (B : Bi mg) (c_span_tally : Cal P w K mg base 7 "span_tally" (spSpanT K)) (c_lowered : Cal P w K mg base 2 "lowered" (spLowered K)) : Cal P w K mg base 8 "mean_span" (spMean K) := by
  refine D.cal sc_mean_span (fun vs H Q E h => ?_) (fun fa cdv A outer s H vs Q E hr h => ?_)
  · obtain ⟨F, v, wb, L, rfl, _⟩ := h
    rfl
  · obtain ⟨F, v, wb, L, rfl, e, hw, ok, AL, hz, q⟩ := h
    refine ⟨_, (pss_cons (ps_set (i := 1) sc_mean_span.nd rfl (.inl rfl) (pe_k c_span_tally hr (by decide) (by rfl) (pa_cons (pv 0) pa_nil)))
      (pss_one (ps_ret (pe_k c_lowered hr (by decide) (by rfl) (pa_cons (pe_callB (cr_sum' K rfl) (by rfl) B.sum (by decide +kernel) (pa_cons (pe_lc (own := [("span", 2), ("many", 3)]) rfl sc_mean_span.nd (pi_tup' K (pv 1)) (blkOk_by (N := ["web", "told", "span", "many"]) (sc := defScope (top 33)) (by decide +kernel)) (fun _ _ _ _ _ => (pg_tup' (n := 2) K rfl (pgs_cons (pg_name (i := 2) sc_mean_span.nd rfl (.inl rfl)) (pgs_cons (pg_name (i := 3) sc_mean_span.nd rfl (.inl rfl)) pgs_nil)))) (fun _ _ _ _ _ => pts_nil) (fun _ _ _ _ _ => (pe_op op_mul (pv 2) (pv 3)))) pa_nil)) (pa_cons (pe_callB (cr_sum' K rfl) (by rfl) B.sum (by decide +kernel) (pa_cons (pe_lc (own := [("span", 2), ("many", 3)]) rfl sc_mean_span.nd (pi_tup' K (pv 1)) (blkOk_by (N := ["web", "told", "span", "many"]) (sc := defScope (top 33)) (by decide +kernel)) (fun _ _ _ _ _ => (pg_tup' (n := 2) K rfl (pgs_cons (pg_name (i := 2) sc_mean_span.nd rfl (.inl rfl)) (pgs_cons (pg_name (i := 3) sc_mean_span.nd rfl (.inl rfl)) pgs_nil)))) (fun _ _ _ _ _ => pts_nil) (fun _ _ _ _ _ => (pv 3))) pa_nil)) pa_nil)))))), ?_⟩
    refine q_raw (p_call (p_cons (p_var rfl (p_nil ⟨F, v, wb, L, rfl, e, hw, ok, AL, fun t x G H1 ht hb g1 rt => ?_⟩))))
    have hs := tally_two ht
    have htl : t.length < 100000 := by
      obtain ⟨us, h1, h2, h3⟩ := ht
      have := rise_len (N := 9) h1 fun u hu => by
        have := hb (u, ((L.map spanI).count u : Int)) (by rw [h3]; exact List.mem_map.mpr ⟨u, hu, rfl⟩)
        simp only at this
        omega
      rw [h3, List.length_map]
      omega
    have k1 : Ev (tCB (rSum K) (tCons (tLc (iTup K (tVar 1)) (gPair K 2 3) tYes (tOp (rI CMul fun i j => .int (i * j)) (tVar 2) (tVar 3)) [2, 3]) tNil)) [some v, some x, none, none] G (.int (L.map spanI).sum) := by
      rw [← hs.1]
      refine ev_sum ((EvN.toR (K := K) (evn_lcTP (K := K) (R1 := rInt) (R2 := rInt) (S := rInt) (PL := fun ys => ys = t) (j := 2) (l := 3) (fun _ => true) (fun p y => y = p.1 * p.2) (evr_var rfl rt) (fun xs h => by rw [h]; exact htl) (fun _ _ => rfl) (fun _ _ _ _ _ _ _ _ _ _ => et_yes)
        (fun xs p a b G2 hxs hp _ eg ra rb => by
          cases (show a = .int p.1 from ra)
          cases (show b = .int p.2 from rb)
          have := hb p (hxs ▸ hp)
          exact evr_int (ev_op (x := .int p.1) (y := .int p.2) (ev_var rfl) (ev_var rfl) (rv_I (.inl ⟨by omega, by omega⟩)))))).imp fun ys ⟨xs, hxs, mb⟩ => by
            have := made_map (fn := fun p : Int × Int => p.1 * p.2) mb
            rw [List.filter_eq_self.mpr fun _ _ => rfl, hxs] at this
            exact this)
    have k2 : Ev (tCB (rSum K) (tCons (tLc (iTup K (tVar 1)) (gPair K 2 3) tYes (tVar 3) [2, 3]) tNil)) [some v, some x, none, none] G (.int (L.length : Int)) := by
      have h2 := hs.2
      rw [List.length_map] at h2
      rw [← h2]
      refine ev_sum ((EvN.toR (K := K) (evn_lcTP (K := K) (R1 := rInt) (R2 := rInt) (S := rInt) (PL := fun ys => ys = t) (j := 2) (l := 3) (fun _ => true) (fun p y => y = p.2) (evr_var rfl rt) (fun xs h => by rw [h]; exact htl) (fun _ _ => rfl) (fun _ _ _ _ _ _ _ _ _ _ => et_yes)
        (fun xs p a b G2 hxs hp _ eg ra rb => evr_var rfl rb))).imp fun ys ⟨xs, hxs, mb⟩ => by
            have := made_map (fn := fun p : Int × Int => p.2) mb
            rw [List.filter_eq_self.mpr fun _ _ => rfl, hxs] at this
            exact this)
    have hne : 0 < L.length := List.length_pos_iff.mpr (lays_ne ok AL)
    refine s_retP (p_call (p_cons (k1 H1 g1.sub _ fun H2 x2 => p_cons (k2 H2 (g1.sub.trans x2) _ fun H3 x3 => p_nil ⟨G, spanSum L, L.length, by rw [← spanSum_cast ok.form AL]; rfl, (g1.sub.trans x2).trans x3, hne, hz, fun y G2 H4 g4 ry => ?_⟩))))
    exact q y G2 H4 ((g1.ex (x2.trans x3)).trans g4) ry
end
end Tr
namespace Tr
open PySem PySem.Spec PyProof.Rows L2 Evl RZ
theorem lowC_none {wb : Web} {d1 d2 : List Nat} {L : List (List Int)} (A1 : Away wb 0 d1) (A2 : Away wb 0 d2) (ok : WebOK wb) (AL : AllLays wb L) {least : Int} (hl : least ≤ 0) (h : ∃ i, i < wb.1 ∧ (highB d2).getD i 0 < (floorB least d1).getD i 0) : lowC L least = 0 := by
  obtain ⟨i, hi, hlt⟩ := h
  have l1 := A1.len
  have l2 := A2.len
  unfold lowC
  rw [List.countP_eq_zero]
  intro m hm hd
  obtain ⟨l, hL, rfl⟩ := List.mem_map.mp hm
  rw [decide_eq_true_eq] at hd
  obtain ⟨h1, h0⟩ := (AL.mem l).mp hL
  have h3 := lay_dist A1 h1 _ i (get_getD 0 (by omega))
  have h4 := lay_dist A2 h1 _ i (get_getD 0 (by omega))
  have h5 := (minI_spec (lay_ne ok.form h1)).2 _ (get_mem (i := i) (by rw [h1.1]; exact hi))
  rw [floorB_get (by omega), highB_get (by omega)] at hlt
  unfold floor1 at hlt
  split at hlt <;> omega
theorem downT_succ (xs : List Int) (i : Nat) : downT xs (i + 1) = if 0 < xs.count (-(i : Int)) then downT xs i ++ [(-(i : Int), (xs.count (-(i : Int)) : Int))] else downT xs i := by
  unfold downT
  rw [List.range_succ, List.filter_append, List.map_append]
  by_cases c : 0 < xs.count (-(i : Int))
  · rw [if_pos c, List.filter_cons_of_pos (by exact decide_eq_true c)]
    rfl
  · rw [if_neg c, List.filter_cons_of_neg (by rw [decide_eq_true_eq]; exact c)]
    show _ ++ [] = _
    rw [List.append_nil]
section
variable {K : PySem.W.Frag} {σ : L2.St} {F F' H G H2 : Hp} {ta tb tc te tx tl : TE} {t u : TT} {T U W : Type} {R : Rp T} {S : Rp U} {P : T → Prop} {D : Ends} {g : TG} {ts u2 : TS}
theorem q_asg (h : te σ H fun v H1 => g v σ H1 fun σ2 H2 => u2 D σ2 H2) : tSeq (tAsg te g) u2 D σ H := h
theorem ev_minT {ns : List Int} (h : EvR (rTup K rInt) te σ F ns) (hne : ns ≠ []) : Ev (tCB (rMinT K) (tCons te tNil)) σ F (.int (minI ns)) := ev_cb1 h fun ys v G _ e r => by
  subst e
  obtain ⟨p, vs, rfl, hl, r⟩ := r
  rw [ints_of r] at hl
  exact fun H1 e1 Q q => ⟨p, ys, rfl, ex_t e1 hl, List.length_pos_iff.mpr hne, fun m h1 h2 => by
    rw [minI_eq h1 h2] at q
    exact q H1 (Ex.refl H1)⟩
theorem ev_maxT {ns : List Int} (h : EvR (rTup K rInt) te σ F ns) (hne : ns ≠ []) : Ev (tCB (rMaxT K) (tCons te tNil)) σ F (.int (maxI ns)) := ev_cb1 h fun ys v G _ e r => by
  subst e
  obtain ⟨p, vs, rfl, hl, r⟩ := r
  rw [ints_of r] at hl
  exact fun H1 e1 Q q => ⟨p, ys, rfl, ex_t e1 hl, List.length_pos_iff.mpr hne, fun m h1 h2 => by
    rw [maxI_eq h1 h2] at q
    exact q H1 (Ex.refl H1)⟩
theorem p_rev {Q : VK} (h : te σ H fun x H1 => ∃ a xs, x = .ref a ∧ SqL K H1 a xs ∧ ∀ p, H1 p = none → Q (.ref p) (upd H1 p (.lst xs.reverse))) : tRevL K te σ H Q := h
theorem seq_rev {R : V → T → Prop} : ∀ {vs : List V} {xs : List T}, Paired R vs xs → Paired R vs.reverse xs.reverse
  | _, _, .nil => .nil
  | _, _, .cons a t => by
    rw [List.reverse_cons, List.reverse_cons]
    exact seq_app a (seq_rev t)
theorem p_rng3 {ta : TA} {R : It → Hp → Prop} (h : ta σ H fun vs H1 => ∃ (i j c : Int) (n : Nat), vs = [.int i, .int j, .int c] ∧ RgC i j c n ∧ R (Itc i c n) H1) : iRng3 ta σ H R := h
end
section
variable {P : Program} {w : World} {K : PySem.W.Frag} {mg : Str → Option Value} {base : Heap}
def spLowT (K : PySem.W.Frag) : Sp := fun vs H Q _ => ∃ (F : Hp) (v : V) (wb : Web) (L : List (List Int)), vs = [v] ∧ Ex F H ∧ rWeb K F v wb ∧ WebOK wb ∧ AllLays wb L ∧
  ∀ t x G H2, IsTally (L.map minI) t → Grow F H G H2 → rTup K (rII K) G x t → Q x H2
theorem sc_lowest_tally : FnScope ["web", "low", "high", "found", "last", "least", "floor", "many", "one", "other"] ["web"] (defScope (top 34)) := ⟨rfl, rfl, rfl, by decide +kernel, rfl, by decide +kernel, by decide +kernel⟩
theorem c_lowest_tally (D : Def K mg "lowest_tally" (top 34) ["web"]) (B : Bi mg) (c_need_narrow : Cal P w K mg base 6 "need_narrow" (spNone K)) (c_bounds_from : Cal P w K mg base 5 "bounds_from" (spBounds K)) (c_number_within : Cal P w K mg base 3 "number_within" (spNumber K)) : Cal P w K mg base 7 "lowest_tally" (spLowT K) := by
  refine D.cal sc_lowest_tally (fun vs H Q E h => ?_) (fun fa cdv A outer s H vs Q E hr h => ?_)
  · obtain ⟨F, v, wb, L, rfl, _⟩ := h
    rfl
  · obtain ⟨F, v, wb, L, rfl, e, hw, ok, AL, q⟩ := h
    refine ⟨_, (pss_cons (ps_expr (pe_k c_need_narrow hr (by decide) (by rfl) (pa_cons (pv 0) pa_nil)))
      (pss_cons (ps_asg (pe_k c_bounds_from hr (by decide) (by rfl) (pa_cons (pv 0) (pa_cons pe_int pa_nil))) (pg_tup' (n := 2) K rfl (pgs_cons (pg_name (i := 1) sc_lowest_tally.nd rfl (.inl rfl)) (pgs_cons (pg_name (i := 2) sc_lowest_tally.nd rfl (.inl rfl)) pgs_nil))))
      (pss_cons (ps_par (i := 3) (j := 4) rfl sc_lowest_tally.nd rfl rfl (by decide) rfl rfl (pa_cons (pe_lst pa_nil) (pa_cons pe_int pa_nil)) (by rfl))
      (pss_cons (ps_for PassesOwn.never rfl (pi_range3 (by rfl) B.range (pa_cons pe_int (pa_cons (pe_op op_sub (pe_callB (cr_minT' K rfl hr) (by rfl) B.min (by decide +kernel) (pa_cons (pv 1) pa_nil)) pe_int) (pa_cons (pe_un un_neg pe_int) pa_nil)))) (pg_name (i := 5) sc_lowest_tally.nd rfl (.inr rfl))
       ((pss_cons (ps_set (i := 6) sc_lowest_tally.nd rfl (.inl rfl) (pe_callTy (call_tuple' K) (by rfl) B.tuple_ (by decide +kernel) (pa_cons (pe_lc (own := [("one", 8)]) rfl sc_lowest_tally.nd (pi_tup' K (pv 1)) (blkOk_by (N := ["web", "low", "high", "found", "last", "least", "floor", "many", "one", "other"]) (sc := defScope (top 34)) (by decide +kernel)) (fun _ _ _ _ _ => (pg_name (i := 8) sc_lowest_tally.nd rfl (.inl rfl))) (fun _ _ _ _ _ => pts_nil) (fun _ _ _ _ _ => (pe_callB (call_max2 rfl) (by rfl) B.max (by decide +kernel) (pa_cons (pv 8) (pa_cons (pe_op op_add (pv 5) (pe_op op_mod (pe_op op_sub (pv 8) (pv 5)) pe_int)) pa_nil))))) pa_nil)))
       (pss_cons (ps_set (i := 7) sc_lowest_tally.nd rfl (.inl rfl) (pe_ifExp (pt_val (pe_callB (cr_all' K rfl) (by rfl) B.all (by decide +kernel) (pa_cons (pe_lc (own := [("one", 8), ("other", 9)]) rfl sc_lowest_tally.nd (pi_zip' K (by rfl) B.zip (pa_cons (pv 6) (pa_cons (pv 2) pa_nil))) (blkOk_by (N := ["web", "low", "high", "found", "last", "least", "floor", "many", "one", "other"]) (sc := defScope (top 34)) (by decide +kernel)) (fun _ _ _ _ _ => (pg_tup' (n := 2) K rfl (pgs_cons (pg_name (i := 8) sc_lowest_tally.nd rfl (.inl rfl)) (pgs_cons (pg_name (i := 9) sc_lowest_tally.nd rfl (.inl rfl)) pgs_nil)))) (fun _ _ _ _ _ => pts_nil) (fun _ _ _ _ _ => (pe_cmpR op_le (pv 8) (pv 9) (nomark _)))) pa_nil))) (pe_k c_number_within hr (by decide) (by rfl) (pa_cons (pv 0) (pa_cons (pv 6) (pa_cons (pv 2) pa_nil)))) pe_int))
       (pss_cons (ps_if (pt_cmpR op_gt (pv 7) (pv 4) (nomark _))
        ((pss_one (ps_expr (pe_bm' K PySem.F.plainAttrs_list PySem.F.slot_list_append PySem.F.type_list_append mt_append (pv 3) (pa_cons (pe_tup (pa_cons (pv 5) (pa_cons (pe_op op_sub (pv 7) (pv 4)) pa_nil))) pa_nil)))))
        (pss_nil))
       (pss_one (ps_set (i := 4) sc_lowest_tally.nd rfl (.inl rfl) (pe_callB (call_max2 rfl) (by rfl) B.max (by decide +kernel) (pa_cons (pv 4) (pa_cons (pv 7) pa_nil))))))))))
      (pss_one (ps_ret (pe_callTy (call_tuple' K) (by rfl) B.tuple_ (by decide +kernel) (pa_cons (pe_revL' K (pv 3)) pa_nil)))))))), ?_⟩
    have h9 := ok.nine
    have hlo := ok.form.lo
    refine q_drop (F := F) (v := .non) (fun H1 e1 Q q => p_call (p_cons (p_var rfl (p_nil ⟨F, v, wb, rfl, e1, hw, ok, fun H2 x2 => q H2 x2⟩)))) e fun H1 x1 => ?_
    refine q_asg (p_call (p_cons (p_var rfl (p_cons (p_c (p_nil ⟨F, v, wb, 0, rfl, e.trans x1, hw, ok, by omega, fun d1 d2 x G1 H2 A1 A2 g0 rx => ?_⟩))))))
    obtain ⟨pp, lv, hv, rfl, hpp, rl, rh⟩ := rx
    have g1 : Grow F H G1 H2 := ⟨x1.trans g0.act, g0.fz, g0.sub, fun a o z => (g0.new a o z).elim .inl fun y => .inr (fresh_back x1 y)⟩
    refine g_pair (ex_t g0.sub hpp) ?_
    have rl : rTup K rInt G1 lv (lowB d1) := rl
    have rh : rTup K rInt G1 hv (highB d2) := rh
    have l1 := A1.len
    have l2 := A2.len
    have hl1 : (lowB d1).length = wb.1 := by unfold lowB; rw [List.length_map, l1]
    have hne : lowB d1 ≠ [] := fun z => by rw [z] at hl1; simp at hl1; omega
    obtain ⟨m1, m2⟩ := minI_spec hne
    have m0 : minI (lowB d1) ≤ 0 := by
      have := m2 _ (get_mem (i := 0) (by omega))
      rw [lowB_get (by omega), away0 A1] at this
      omega
    obtain ⟨M, hM⟩ : ∃ M : Nat, minI (lowB d1) = -(M : Int) := ⟨(-(minI (lowB d1))).toNat, by omega⟩
    have hM8 : M ≤ 8 := by
      unfold lowB at m1 hM
      obtain ⟨d, hd, e2⟩ := List.mem_map.mp m1
      have := away_mem A1 hd
      omega
    have hdM : ∀ d ∈ d1, d ≤ M := fun d hd => by
      have := m2 (0 - (d : Int)) (List.mem_map.mpr ⟨d, hd, rfl⟩)
      omega
    refine q_par (p_cons ⟨Nat.zero_le _, fun Lf nLf => p_cons (p_c (p_nil ⟨_, _, rfl, ?_⟩))⟩)
    have g2 : Grow F H G1 (upd H2 Lf (.lst [])) := g1.ex (Ex.new nLf)
    have fLf := (g1.free nLf).2
    have HLf := (g1.free nLf).1
    have cLf : (upd H2 Lf (.lst [])) Lf = some (.lst []) := upd_same
    generalize (upd H2 Lf (.lst [])) = H3 at g2 cLf ⊢
    refine q_seq (p_for (p_rng3 (p_cons (p_c (p_cons ?_)))))
    refine (ev_op (x := .int (minI (lowB d1))) (y := .int 1) (ev_minT (K := K) (evr_var rfl rl) hne) ev_c rv_I0) H3 g2.sub _ fun H4 x4 => p_cons (p_un (p_c ⟨1, rfl, p_nil ⟨0, minI (lowB d1) - 1, -1, _, rfl, RgC.neg (by omega) (by omega) (by omega) (by omega), ?_⟩⟩))
    have hn : (0 - (minI (lowB d1) - 1)).toNat = M + 1 := by omega
    rw [hn]
    refine for_rangeC (fun i σ' H' => ∃ (y5 y6 y7 y8 y9 : Option V) (G : Hp) (us : List V), σ' = [some v, some lv, some hv, some (.ref Lf), some (.int (lowC L (1 - (i : Int)) : Int)), y5, y6, y7, y8, y9] ∧ Ex G1 G ∧ Grow F H G H' ∧ G Lf = none ∧ H' Lf = some (.lst us) ∧ rSeq (rII K) G us (downT (L.map minI) i))
      ⟨_, _, _, _, _, G1, [], by
        rw [show (1 - ((0 : Nat) : Int)) = 1 by omega, lowC_top fun l hl => (low_le ok.form ((AL.mem l).mp hl).1 ((AL.mem l).mp hl).2 A1 hdM).2]
        rfl, Ex.refl _, g2.ex x4, fLf, x4 _ _ cLf, .nil⟩
      (fun i σ' H' hi ⟨y5, y6, y7, y8, y9, G, us, hσ, xg, g, gLf, hLf, hus⟩ => ?_) (fun σ' H' ⟨y5, y6, y7, y8, y9, G, us, hσ, xg, g, gLf, hLf, hus⟩ => ?_)
    · subst hσ
      have hle : (0 : Int) + (i : Nat) * (-1) = -(i : Int) := by omega
      rw [hle]
      refine g_name ?_
      -- floor
      refine q_set (F := G) (R := rTup K rInt) (P := fun ys => ys = floorB (-(i : Int)) d1) ((evp_tupL (EvN.toR (K := K) (evn_lcT (S := rInt) (j := 8) (fun _ => true) (fun (x : Int) y => y = floor1 (-(i : Int)) x) (PL := fun xs => xs = lowB d1) (evr_var rfl (Mono.mono xg rl)) (fun xs h => by rw [h]; omega) (fun _ => rfl) (fun _ _ _ _ _ _ _ _ => et_yes)
        (fun xs d a G2 hxs hx _ eg2 ra => by
          cases (show a = .int d from ra)
          exact evr_int (ev_max2 (i := d) (j := -(i : Int) + (d - -(i : Int)) % 2) (ev_var rfl) (ev_op (x := .int (-(i : Int))) (y := .int ((d - -(i : Int)) % 2)) (ev_var rfl) (ev_op (x := .int (d - -(i : Int))) (y := .int 2) (ev_op (x := .int d) (y := .int (-(i : Int))) (ev_var rfl) (ev_var rfl) rv_I0) ev_c (rv_I (by omega))) rv_I0)))))).imp fun ys ⟨xs, hxs, mb⟩ => by
            have := made_map (fn := floor1 (-(i : Int))) mb
            rw [List.filter_eq_self.mpr fun _ _ => rfl, hxs] at this
            exact this) g.sub fun fl flv G2 H5 hfl g5 rf => ?_
      subst hfl
      have rh2 := Mono.mono (xg.trans g5.fz) rh
      have hw2 : rWeb K G2 v wb := Mono.mono (g1.fz.trans (xg.trans g5.fz)) hw
      have bf := bnds_B A1 A2 ok (least := -(i : Int)) (by omega) (by omega)
      refine q_setV (F := G2) (v := .int (lowC L (-(i : Int)) : Int)) (ev_if (et_B (ev_allLe (K := K) (evr_var rfl rf) (evr_var rfl rh2) (by rw [bf.l1]; omega) (fun _ _ => rfl) (fun _ _ => rfl) (fun _ _ => rfl))) (fun hb => ?_) fun hb => ?_) g5.sub fun H6 x6 => ?_
      · refine fun H6 x6 Q q => p_call (p_cons (p_var rfl (p_cons (p_var rfl (p_cons (p_var rfl (p_nil ⟨G2, v, flv, hv, wb, floorB (-(i : Int)) d1, highB d2, rfl, x6, hw2, ok, rf, rh2, bf, cap_B A1 A2 ok (by omega), fun ns H7 hN x7 => ?_⟩)))))))
        rw [low_eq hN A1 A2 ok AL (by omega)]
        exact q H7 x7
      · rw [lowC_none A1 A2 ok AL (by omega) (zip_all bf.l1 bf.l2 hb)]
        exact ev_c
      · have hstep := lowC_step L (-(i : Int))
        have e1 : -(i : Int) + 1 = 1 - (i : Int) := by omega
        rw [e1] at hstep
        have g6 : Grow F H G2 H6 := (g.trans g5).ex x6
        have h6Lf := x6 _ _ (g5.act _ _ hLf)
        have g6Lf := g5.gone gLf hLf
        refine q_ifB (F := G2) (et_test (ev_op (x := .int (lowC L (-(i : Int)) : Int)) (y := .int (lowC L (1 - (i : Int)) : Int)) (ev_var rfl) (ev_var rfl) rv_I0)) g6.sub (fun hb H7 x7 => ?_) (fun hb H7 x7 => ?_)
        · have hpos : 0 < (L.map minI).count (-(i : Int)) := by
            have := of_decide_eq_true hb
            omega
          refine s_append (F := G2) (l := Lf) (R := rII K) (P := fun p => p = (-(i : Int), ((L.map minI).count (-(i : Int)) : Int))) (x7 _ _ h6Lf) g6Lf (ev_var rfl) (evr_pair (evr_int (ev_var rfl)) (evr_int (ev_to (ev_op (x := .int (lowC L (-(i : Int)) : Int)) (y := .int (lowC L (1 - (i : Int)) : Int)) (ev_var rfl) (ev_var rfl) rv_I0) (by
            show V.int _ = V.int _
            congr 1
            omega)))) (g6.sub.trans x7) (by
            have := seq_len hus
            have h2 : (downT (L.map minI) i).length ≤ i := by
              unfold downT
              rw [List.length_map]
              refine Nat.le_trans (List.length_filter_le _ _) ?_
              rw [List.length_range]
              exact Nat.le_refl _
            omega) fun p pv G3 H8 hp g8 gLf3 rp => ?_
          subst hp
          have g9 := ((g6.ex x7).trans g8).wr (o := .lst (us ++ [pv])) gLf3 HLf
          refine s_setV (F := upd H8 Lf (.lst (us ++ [pv]))) (ev_max2 (i := (lowC L (1 - (i : Int)) : Int)) (j := (lowC L (-(i : Int)) : Int)) (ev_var rfl) (ev_var rfl)) (Ex.refl _) fun H9 x9 => ?_
          refine ⟨_, _, _, _, _, G3, us ++ [pv], by
            rw [show (1 - ((i + 1 : Nat) : Int)) = -(i : Int) by omega]
            rw [if_pos (by omega)]
            rfl, (xg.trans g5.fz).trans g8.fz, g9.ex x9, gLf3, x9 _ _ upd_same, ?_⟩
          rw [downT_succ, if_pos hpos]
          exact seq_app rp (seq_mono (g5.fz.trans g8.fz) hus)
        · have hpos : ¬ 0 < (L.map minI).count (-(i : Int)) := by
            have := of_decide_eq_false hb
            omega
          refine s_next ?_
          refine s_setV (F := H7) (ev_max2 (i := (lowC L (1 - (i : Int)) : Int)) (j := (lowC L (-(i : Int)) : Int)) (ev_var rfl) (ev_var rfl)) (Ex.refl _) fun H9 x9 => ?_
          refine ⟨_, _, _, _, _, G2, us, by
            rw [show (1 - ((i + 1 : Nat) : Int)) = -(i : Int) by omega]
            rw [if_neg (by omega), show lowC L (1 - (i : Int)) = lowC L (-(i : Int)) by omega]
            rfl, xg.trans g5.fz, g6.ex (x7.trans x9), g6Lf, x9 _ _ (x7 _ _ h6Lf), ?_⟩
          rw [downT_succ, if_neg hpos]
          exact seq_mono g5.fz hus
    · subst hσ
      refine s_retP (p_cb (p_cons (p_rev (p_var rfl ⟨Lf, us, rfl, SqL.of hLf, fun p np => p_nil ⟨p, us.reverse, rfl, .inl ⟨SqL.of upd_same, fun l nl => ?_⟩⟩⟩))))
      have g3 := g.ex (Ex.new (o := .lst us.reverse) np)
      have g4 := (g3.ex (Ex.new (o := .tup us.reverse) nl)).put (g3.free nl).1 upd_same
      have hx : ∀ x ∈ L.map minI, -((M + 1 : Nat) : Int) < x ∧ x ≤ 0 := fun x hx => by
        obtain ⟨l, hl, rfl⟩ := List.mem_map.mp hx
        obtain ⟨h1, h0⟩ := (AL.mem l).mp hl
        have := low_le ok.form h1 h0 A1 hdM
        omega
      exact q _ (.ref l) _ _ (downT_tally hx) g4 ⟨l, us.reverse, rfl, SqT.of upd_same, seq_mono (Ex.new (g3.free nl).2) (seq_rev hus)⟩
end
end Tr
namespace Tr
open PySem PySem.Spec PyProof.Rows L2 Evl RZ
/-! ### the row of draws: a list that is written at every draw -/
def del (row : Addr) (H : Hp) : Hp := fun a => if a = row then none else H a
theorem del_at {row : Addr} {H : Hp} : del row H row = none := if_pos rfl
theorem del_ne {row a : Addr} {H : Hp} (h : a ≠ row) : del row H a = H a := if_neg h
theorem ex_del {row : Addr} {F H : Hp} (e : Ex F H) (f : F row = none) : Ex F (del row H) := fun a o h => by
  by_cases c : a = row
  · rw [c, f] at h; cases h
  · rw [del_ne c]; exact e a o h
theorem del_ex {row : Addr} {H : Hp} : Ex (del row H) H := fun a o h => by
  by_cases c : a = row
  · rw [c, del_at] at h; cases h
  · rw [del_ne c] at h; exact h
theorem del_upd {row : Addr} {H H2 : Hp} {o : HO} (e : Ex (del row H) H2) : Ex (del row H) (upd H2 row o) := Ex.mut e del_at
def RowAt (row : Addr) (sv : V) (H : Hp) : Prop := ∃ a b c : Int, 0 ≤ a ∧ H row = some (.lst [sv, .int a, .int b, .int c])
section
variable {K : PySem.W.Frag} {σ : L2.St} {F F' H G H2 : Hp} {ta tb tc te tx tl : TE} {t u : TT} {T U W : Type} {R : Rp T} {S : Rp U} {P : T → Prop} {D : Ends} {g : TG} {ts u2 : TS}
theorem evr_of {v : V} {x : T} (h : Ev te σ F v) (r : R F v x) : EvR R te σ F x := fun H e Q q => h H e _ fun H2 e2 => q x v F H2 rfl (Grow.of e e2) r
theorem ev_int1 {i : Int} (h : Ev te σ F (.int i)) : Ev (tCB (fun xs H Q => (∃ i, xs = [.int i] ∧ Q (.int i) H) ∨ ∃ k, xs = [.bl k] ∧ Q (.int (if k then 1 else 0)) H) (tCons te tNil)) σ F (.int i) := fun H e Q q => p_cb (p_cons (h H e _ fun H2 e2 => p_nil (.inl ⟨i, rfl, q H2 e2⟩)))
end
section
variable {P : Program} {w : World} {K : PySem.W.Frag} {mg : Str → Option Value} {base : Heap}
def spTaken (K : PySem.W.Frag) : Sp := fun vs H Q _ => ∃ (F : Hp) (row : Addr) (sv : V) (script : List Int) (many : Nat), vs = [.ref row, .int (many : Int)] ∧ Ex F H ∧ F row = none ∧ rLst K rInt F sv script ∧ RowAt row sv H ∧ 0 < many ∧ many < 1000000 ∧
  ∀ (k : Nat) H2, k < many → Ex (del row H) H2 → RowAt row sv H2 → Q (.int (k : Int)) H2
theorem sc_law_taken : FnScope ["_law_row", "_law_many", "_law_found", "_law_cell"] ["_law_row", "_law_many"] (defScope (top 36)) := ⟨rfl, rfl, rfl, by decide +kernel, rfl, by decide +kernel, by decide +kernel⟩
theorem c_law_taken (D : Def K mg "_law_taken" (top 36) ["_law_row", "_law_many"]) (B : Bi mg) : Cal P w K mg base 1 "_law_taken" (spTaken K) := by
  refine D.cal sc_law_taken (fun vs H Q E h => ?_) (fun fa cdv A outer s H vs Q E hr h => ?_)
  · obtain ⟨F, row, sv, script, many, rfl, _⟩ := h
    rfl
  · obtain ⟨F, row, sv, script, many, rfl, e, fr, hsc, ⟨a, b, c, ha, hrow⟩, hm, hm2, q⟩ := h
    refine ⟨_, (pss_cons (ps_if (pt_cmpR op_gt (pe_ix (ix_list' K) (pv 0) pe_int (fun _ _ => rfl)) pe_int (nomark _))
       ((pss_cons (ps_set (i := 2) sc_law_taken.nd rfl (.inl rfl) (pe_op op_mod (pe_callTy call_int1 (by rfl) B.int_ (by decide +kernel) (pa_cons (pe_ix (ix_list' K) (pv 0) pe_int (fun _ _ => rfl)) pa_nil)) (pv 1)))
       (pss_cons (ps_asg (pe_op op_fdiv (pe_ix (ix_list' K) (pv 0) pe_int (fun _ _ => rfl)) (pv 1)) (pg_sub (pv 0) pe_int set_list))
       (pss_one (ps_ret (pv 2))))))
       (pss_nil))
      (pss_cons (ps_asg (pe_op op_add (pe_ix (ix_list' K) (pv 0) pe_int (fun _ _ => rfl)) pe_int) (pg_sub (pv 0) pe_int set_list))
      (pss_cons (ps_if (pt_cmpR op_gt (pe_ix (ix_list' K) (pv 0) pe_int (fun _ _ => rfl)) (pe_callB (call_len' K) (by rfl) B.len PySem.boot_len (pa_cons (pe_ix (ix_list' K) (pv 0) pe_int (fun _ _ => rfl)) pa_nil)) (nomark _))
       ((pss_cons (ps_asg (pe_op op_mod (pe_callTy call_int1 (by rfl) B.int_ (by decide +kernel) (pa_cons (pe_op op_add (pe_op op_mul (pe_ix (ix_list' K) (pv 0) pe_int (fun _ _ => rfl)) pe_int) pe_int) pa_nil)) pe_int) (pg_sub (pv 0) pe_int set_list))
       (pss_one (ps_ret (pe_op op_mod (pe_callTy call_int1 (by rfl) B.int_ (by decide +kernel) (pa_cons (pe_op op_fdiv (pe_ix (ix_list' K) (pv 0) pe_int (fun _ _ => rfl)) pe_int) pa_nil)) (pv 1))))))
       (pss_nil))
      (pss_cons (ps_set (i := 3) sc_law_taken.nd rfl (.inl rfl) (pe_ix (ix_list' K) (pe_ix (ix_list' K) (pv 0) pe_int (fun _ _ => rfl)) (pe_op op_sub (pe_ix (ix_list' K) (pv 0) pe_int (fun _ _ => rfl)) pe_int) (fun _ _ => rfl)))
      (pss_cons (ps_asg (pe_op op_mod (pe_callTy call_int1 (by rfl) B.int_ (by decide +kernel) (pa_cons (pe_op op_add (pe_op op_add (pe_op op_mul (pe_ix (ix_list' K) (pv 0) pe_int (fun _ _ => rfl)) pe_int) (pv 3)) pe_int) pa_nil)) pe_int) (pg_sub (pv 0) pe_int set_list))
      (pss_cons (ps_if (pt_cmpR op_ge (pv 3) (pe_op op_pow pe_int pe_int) (nomark _))
       ((pss_one (ps_asg (pe_op op_fdiv (pv 3) (pv 1)) (pg_sub (pv 0) pe_int set_list))))
       (pss_nil))
      (pss_one (ps_ret (pe_op op_mod (pe_callTy call_int1 (by rfl) B.int_ (by decide +kernel) (pa_cons (pv 3) pa_nil)) (pv 1)))))))))), ?_⟩
    have fin : ∀ (x : Int) (H2 : Hp), Ex (del row H) H2 → RowAt row sv H2 → Q (.int (x % (many : Int))) H2 := fun x H2 x2 r2 => by
      have h1 : 0 ≤ x % (many : Int) := Int.emod_nonneg _ (by omega)
      have h2 : x % (many : Int) < (many : Int) := Int.emod_lt_of_pos _ (by omega)
      have h3 := q (x % (many : Int)).toNat H2 (by omega) x2 r2
      rw [Int.toNat_of_nonneg h1] at h3
      exact h3
    have cell : ∀ {H' : Hp} {σ' : L2.St} {a b c : Int} (j : Nat) (y : V), H' row = some (.lst [sv, .int a, .int b, .int c]) → σ'[0]? = some (some (.ref row)) → [sv, .int a, .int b, .int c][j]? = some y → Ev (tOp (rIxL K) (tVar 0) (tC (.int (j : Int)))) σ' H' y := fun j y h1 h2 h3 => ev_cellI h1 (ev_var h2) ev_c h3
    have smod : ∀ {H' : Hp} {σ' : L2.St} {te : TE} {x : Int}, Ev te σ' H' (.int x) → σ'[1]? = some (some (.int (many : Int))) → Ev (tOp (rI (fun _ j => 0 < j) fun i j => .int (i % j)) (tCB (fun xs H Q => (∃ i, xs = [.int i] ∧ Q (.int i) H) ∨ ∃ k, xs = [.bl k] ∧ Q (.int (if k then 1 else 0)) H) (tCons te tNil)) (tVar 1)) σ' H' (.int (x % (many : Int))) := fun h1 h2 => ev_op (ev_int1 h1) (ev_var h2) (rv_I (by omega))
    by_cases hc : c > 0
    · refine q_ifT (F := H) (et_test (ev_to (ev_op (x := .int c) (y := .int 0) (cell 3 (.int c) hrow rfl rfl) ev_c rv_I0) (by rw [decide_eq_true hc]))) (Ex.refl H) fun H1 x1 => ?_
      have hrow1 := x1 _ _ hrow
      refine q_setV (F := H1) (v := .int (c % (many : Int))) (smod (cell 3 (.int c) hrow1 rfl rfl) rfl) (Ex.refl H1) fun H2 x2 => ?_
      have hrow2 := x2 _ _ hrow1
      refine q_putV (l := row) (ws := [sv, .int a, .int b, .int c]) (j := 3) (v := .int (c / (many : Int))) hrow2 (ev_op (x := .int c) (y := .int (many : Int)) (cell 3 (.int c) hrow2 rfl rfl) (ev_var rfl) (rv_I ⟨by omega, by omega⟩)) (ev_var rfl) ev_c (by show 3 < 4; decide) fun H3 x3 => ?_
      refine s_retV (F := upd H3 row (.lst [sv, .int a, .int b, .int (c / (many : Int))])) (v := .int (c % (many : Int))) (ev_var rfl) (Ex.refl _) fun H4 x4 => ?_
      exact fin c H4 ((del_upd (del_ex.trans (x1.trans (x2.trans x3)))).trans x4) ⟨a, b, c / (many : Int), ha, x4 _ _ upd_same⟩
    · refine q_skip (F := H) (et_test (ev_to (ev_op (x := .int c) (y := .int 0) (cell 3 (.int c) hrow rfl rfl) ev_c rv_I0) (by rw [decide_eq_false hc]))) (Ex.refl H) fun H1 x1 => ?_
      have hrow1 := x1 _ _ hrow
      refine q_putV (l := row) (ws := [sv, .int a, .int b, .int c]) (j := 1) (v := .int (a + 1)) hrow1 (ev_op (x := .int a) (y := .int 1) (cell 1 (.int a) hrow1 rfl rfl) ev_c rv_I0) (ev_var rfl) ev_c (by show 1 < 4; decide) fun H2 x2 => ?_
      have d2 : Ex (del row H) (upd H2 row (.lst [sv, .int (a + 1), .int b, .int c])) := del_upd (del_ex.trans (x1.trans x2))
      have r2 : (upd H2 row (.lst [sv, .int (a + 1), .int b, .int c])) row = some (.lst [sv, .int (a + 1), .int b, .int c]) := upd_same
      show (tSeq _ _) _ _ (upd H2 row (.lst [sv, .int (a + 1), .int b, .int c]))
      generalize (upd H2 row (.lst [sv, .int (a + 1), .int b, .int c])) = H3 at d2 r2 ⊢
      have hsc3 : rLst K rInt H3 sv script := Mono.mono ((ex_del e fr).trans d2) hsc
      have hlen : ∀ {σ' : L2.St}, σ'[0]? = some (some (.ref row)) → Ev (tCB (rLenS K) (tCons (tOp (rIxL K) (tVar 0) (tC (.int 0))) tNil)) σ' H3 (.int (script.length : Int)) := fun h0 => ev_lenL (R := rInt) (evr_of (cell 0 sv r2 h0 rfl) hsc3)
      by_cases hl : a + 1 > (script.length : Int)
      · refine q_ifT (F := H3) (et_test (ev_to (ev_op (x := .int (a + 1)) (y := .int (script.length : Int)) (cell 1 (.int (a + 1)) r2 rfl rfl) (hlen rfl) rv_I0) (by rw [decide_eq_true hl]))) (Ex.refl H3) fun H4 x4 => ?_
        have r4 := x4 _ _ r2
        refine q_putV (l := row) (ws := [sv, .int (a + 1), .int b, .int c]) (j := 2) (v := .int ((b * 48271 + 11) % 2147483647)) r4 (ev_op (x := .int (b * 48271 + 11)) (y := .int 2147483647) (ev_int1 (ev_op (x := .int (b * 48271)) (y := .int 11) (ev_op (x := .int b) (y := .int 48271) (cell 2 (.int b) r4 rfl rfl) ev_c (rv_I (.inr ⟨by decide, by decide⟩))) ev_c rv_I0)) ev_c (rv_I (by decide))) (ev_var rfl) ev_c (by show 2 < 4; decide) fun H5 x5 => ?_
        have r5 : (upd H5 row (.lst [sv, .int (a + 1), .int ((b * 48271 + 11) % 2147483647), .int c])) row = some (.lst [sv, .int (a + 1), .int ((b * 48271 + 11) % 2147483647), .int c]) := upd_same
        refine s_retV (F := upd H5 row (.lst [sv, .int (a + 1), .int ((b * 48271 + 11) % 2147483647), .int c])) (smod (ev_op (x := .int ((b * 48271 + 11) % 2147483647)) (y := .int 7) (cell 2 _ r5 rfl rfl) ev_c (rv_I ⟨by decide, by decide⟩)) rfl) (Ex.refl _) fun H6 x6 => ?_
        exact fin _ H6 ((del_upd (d2.trans (x4.trans x5))).trans x6) ⟨a + 1, _, c, by omega, x6 _ _ r5⟩
      · refine q_skip (F := H3) (et_test (ev_to (ev_op (x := .int (a + 1)) (y := .int (script.length : Int)) (cell 1 (.int (a + 1)) r2 rfl rfl) (hlen rfl) rv_I0) (by rw [decide_eq_false hl]))) (Ex.refl H3) fun H4 x4 => ?_
        have r4 := x4 _ _ r2
        obtain ⟨n, hn⟩ : ∃ n : Nat, a = (n : Int) := ⟨a.toNat, by omega⟩
        have hnl : n < script.length := by omega
        refine q_setV (F := H4) (v := .int (script.getD n 0)) (ev_int (evr_ixL (K := K) (R := rInt) (i := (n : Int)) (evr_of (cell 0 sv r4 rfl rfl) (Mono.mono x4 hsc3)) (ev_to (ev_op (x := .int (a + 1)) (y := .int 1) (cell 1 (.int (a + 1)) r4 rfl rfl) ev_c rv_I0) (by show V.int _ = V.int _; congr 1; omega)) (atN (get_getD 0 hnl)))) (Ex.refl H4) fun H5 x5 => ?_
        have r5 := x5 _ _ r4
        generalize script.getD n 0 = cell0
        refine q_putV (l := row) (ws := [sv, .int (a + 1), .int b, .int c]) (j := 2) (v := .int ((b * 48271 + cell0 + 11) % 2147483647)) r5 (ev_op (x := .int (b * 48271 + cell0 + 11)) (y := .int 2147483647) (ev_int1 (ev_op (x := .int (b * 48271 + cell0)) (y := .int 11) (ev_op (x := .int (b * 48271)) (y := .int cell0) (ev_op (x := .int b) (y := .int 48271) (cell 2 (.int b) r5 rfl rfl) ev_c (rv_I (.inr ⟨by decide, by decide⟩))) (ev_var rfl) rv_I0) ev_c rv_I0)) ev_c (rv_I (by decide))) (ev_var rfl) ev_c (by show 2 < 4; decide) fun H6 x6 => ?_
        have d7 : Ex (del row H) (upd H6 row (.lst [sv, .int (a + 1), .int ((b * 48271 + cell0 + 11) % 2147483647), .int c])) := del_upd (d2.trans (x4.trans (x5.trans x6)))
        have r7 : (upd H6 row (.lst [sv, .int (a + 1), .int ((b * 48271 + cell0 + 11) % 2147483647), .int c])) row = some (.lst [sv, .int (a + 1), .int ((b * 48271 + cell0 + 11) % 2147483647), .int c]) := upd_same
        show (tSeq _ _) _ _ (upd H6 row (.lst [sv, .int (a + 1), .int ((b * 48271 + cell0 + 11) % 2147483647), .int c]))
        generalize (b * 48271 + cell0 + 11) % 2147483647 = b2 at d7 r7 ⊢
        generalize (upd H6 row (.lst [sv, .int (a + 1), .int b2, .int c])) = H7 at d7 r7 ⊢
        refine q_ifB (F := H7) (et_test (ev_op (x := .int cell0) (y := .int ((10 : Int) ^ (18 : Int).toNat)) (ev_var rfl) (ev_op (x := .int 10) (y := .int 18) ev_c ev_c (rv_I ⟨by decide, by decide, by decide⟩)) rv_I0)) (Ex.refl H7) (fun hb H8 x8 => ?_) (fun hb H8 x8 => ?_)
        · have r8 := x8 _ _ r7
          refine s_putV (l := row) (ws := [sv, .int (a + 1), .int b2, .int c]) (j := 3) (v := .int (cell0 / (many : Int))) r8 (ev_op (x := .int cell0) (y := .int (many : Int)) (ev_var rfl) (ev_var rfl) (rv_I ⟨by omega, by omega⟩)) (ev_var rfl) ev_c (by show 3 < 4; decide) fun H9 x9 => ?_
          refine s_retV (F := upd H9 row (.lst [sv, .int (a + 1), .int b2, .int (cell0 / (many : Int))])) (smod (ev_var rfl) rfl) (Ex.refl _) fun H10 x10 => ?_
          exact fin _ H10 ((del_upd (d7.trans (x8.trans x9))).trans x10) ⟨a + 1, b2, cell0 / (many : Int), by omega, x10 _ _ upd_same⟩
        · refine s_next ?_
          refine s_retV (F := H8) (smod (ev_var rfl) rfl) (Ex.refl _) fun H10 x10 => ?_
          exact fin _ H10 (d7.trans (x8.trans x10)) ⟨a + 1, b2, c, by omega, x10 _ _ (x8 _ _ r7)⟩
end
end Tr
namespace Tr
open PySem PySem.Spec PyProof.Rows L2 Evl RZ
section
variable {P : Program} {w : World} {K : PySem.W.Frag} {mg : Str → Option Value} {base : Heap}
theorem erase_map {T U : Type} (f : T → U) : ∀ (l : List T) (k : Nat), (l.map f).eraseIdx k = (l.eraseIdx k).map f
  | [], _ => rfl
  | _ :: _, 0 => rfl
  | x :: r, k + 1 => by
    show f x :: (r.map f).eraseIdx k = f x :: (r.eraseIdx k).map f
    rw [erase_map f r k]
theorem RowAt.ex {row : Addr} {sv : V} {H H2 : Hp} (r : RowAt row sv H) (e : Ex H H2) : RowAt row sv H2 := by
  obtain ⟨a, b, c, h3, h4⟩ := r
  exact ⟨a, b, c, h3, e _ _ h4⟩
theorem RowAt.upd {row p : Addr} {sv : V} {H : Hp} {o : HO} (r : RowAt row sv H) (n : p ≠ row) : RowAt row sv (upd H p o) := by
  obtain ⟨a, b, c, h3, h4⟩ := r
  exact ⟨a, b, c, h3, keep_upd h4 n⟩
theorem del_step {row : Addr} {H H1 H2 : Hp} (x1 : Ex (del row H) H1) (x2 : Ex (del row H1) H2) : Ex (del row H) H2 := fun a o h => by
  by_cases c : a = row
  · rw [c, del_at] at h; cases h
  · exact x2 a o (by rw [del_ne c]; exact x1 a o h)
theorem del_keep {row p : Addr} {H H2 : Hp} {o : HO} (x : Ex (del row H) H2) (n : p ≠ row) (h : H p = some o) : H2 p = some o := x p o (by rw [del_ne n]; exact h)
theorem s_dropR {te : TE} {σ : L2.St} {H : Hp} {n b c : L2.St → Hp → Prop} {r : VK} (h : te σ H fun v H1 => n σ H1) : tDrop te ⟨n, r, b, c⟩ σ H := h
theorem p_bm {Ty : String} {r : V → List V → Hp → VK → Prop} {to : TE} {t : TA} {σ : L2.St} {H : Hp} {Q : VK} (h : to σ H fun x H1 => tyV K Ty x H1 ∧ t σ H1 fun xs H2 => r x xs H2 Q) : tBM K Ty r to t σ H Q := h
theorem RowAt.ne {row p : Addr} {sv : V} {H : Hp} (r : RowAt row sv H) (n : H p = none) : p ≠ row := by
  obtain ⟨a, b, c, h3, h4⟩ := r
  exact ne_cell h4 n
def spPick (K : PySem.W.Frag) : Sp := fun vs H Q _ => ∃ (F : Hp) (row : Addr) (sv tv : V) (script : List Int) (ks : List Nat), vs = [.ref row, tv] ∧ Ex F H ∧ F row = none ∧ rLst K rInt F sv script ∧ rLst K rNat F tv ks ∧ RowAt row sv H ∧ 0 < ks.length ∧ ks.length < 1000000 ∧
  ∀ (i k : Nat) H2, ks[i]? = some k → Ex (del row H) H2 → RowAt row sv H2 → Q (.int (k : Int)) H2
theorem ev_lenN2 {σ : L2.St} {F : Hp} {te : TE} {xs : List Nat} (h : EvR (rLst K rNat) te σ F xs) : Ev (tCB (rLenS K) (tCons te tNil)) σ F (.int (xs.length : Int)) := ev_lenL h
theorem sc_law_pick : FnScope ["_law_row", "_law_things"] ["_law_row", "_law_things"] (defScope (top 37)) := ⟨rfl, rfl, rfl, by decide +kernel, rfl, by decide +kernel, by decide +kernel⟩
theorem c_law_pick (D : Def K mg "_law_pick" (top 37) ["_law_row", "_law_things"]) (B : Bi mg) (c_law_taken : Cal P w K mg base 1 "_law_taken" (spTaken K)) : Cal P w K mg base 2 "_law_pick" (spPick K) := by
  refine D.cal sc_law_pick (fun vs H Q E h => ?_) (fun fa cdv A outer s H vs Q E hr h => ?_)
  · obtain ⟨F, row, sv, tv, script, ks, rfl, _⟩ := h
    rfl
  · obtain ⟨F, row, sv, tv, script, ks, rfl, e, fr, hsc, ht, hrow, h1, h2, q⟩ := h
    refine ⟨_, (pss_one (ps_ret (pe_ix (ix_list' K) (pv 1) (pe_k c_law_taken hr (by decide) (by rfl) (pa_cons (pv 0) (pa_cons (pe_callB (call_len' K) (by rfl) B.len PySem.boot_len (pa_cons (pv 1) pa_nil)) pa_nil))) (fun _ _ => rfl)))), ?_⟩
    refine s_retP (p_op (p_var rfl (p_call (p_cons (p_var rfl (p_cons ((ev_lenL (R := rNat) (evr_var rfl ht)) H e _ fun H1 x1 => p_nil ⟨F, row, sv, script, ks.length, rfl, e.trans x1, fr, hsc, hrow.ex x1, h1, h2, fun k H2 hk x2 r2 => ?_⟩)))))))
    obtain ⟨p, vs, rfl, hl, r⟩ := ht
    have hk2 : ks[k]? = some ks[k] := List.getElem?_eq_getElem hk
    obtain ⟨vk, hv, rk⟩ := seq_get r hk2
    cases (show vk = .int (ks[k] : Int) from rk)
    have x3 : Ex (del row H) H2 := fun a o ho => by
      by_cases c : a = row
      · rw [c, del_at] at ho; cases ho
      · rw [del_ne c] at ho
        exact x2 a o (by rw [del_ne c]; exact x1 a o ho)
    exact ⟨p, vs, (k : Int), _, rfl, rfl, ex_l ((ex_del e fr).trans x3) hl, atN hv, q k ks[k] H2 hk2 x3 r2⟩
def spMixed (K : PySem.W.Frag) : Sp := fun vs H Q _ => ∃ (F : Hp) (row : Addr) (sv tv : V) (script : List Int) (ks : List Nat), vs = [.ref row, tv] ∧ Ex F H ∧ F row = none ∧ rLst K rInt F sv script ∧ rLst K rNat F tv ks ∧ RowAt row sv H ∧ ks.length < 1000 ∧
  ∀ (us : List Nat) (p : Addr) H2, us.Perm ks → H p = none → Ex (del row H) H2 → RowAt row sv H2 → H2 p = some (.lst (us.map nV)) → Q (.ref p) H2
theorem sc_law_mixed : FnScope ["_law_row", "_law_some", "_law_left", "_law_found", "_law_step"] ["_law_row", "_law_some"] (defScope (top 39)) := ⟨rfl, rfl, rfl, by decide +kernel, rfl, by decide +kernel, by decide +kernel⟩
theorem c_law_mixed (D : Def K mg "_law_mixed" (top 39) ["_law_row", "_law_some"]) (B : Bi mg) (c_law_taken : Cal P w K mg base 1 "_law_taken" (spTaken K)) : Cal P w K mg base 2 "_law_mixed" (spMixed K) := by
  refine D.cal sc_law_mixed (fun vs H Q E h => ?_) (fun fa cdv A outer s H vs Q E hr h => ?_)
  · obtain ⟨F, row, sv, tv, script, ks, rfl, _⟩ := h
    rfl
  · obtain ⟨F, row, sv, tv, script, ks, rfl, e, fr, hsc, ht, hrow, h2, q⟩ := h
    refine ⟨_, (pss_cons (ps_par (i := 2) (j := 3) rfl sc_law_mixed.nd rfl rfl (by decide) rfl rfl (pa_cons (pe_callTy (call_list' K) (by rfl) B.list_ (by decide +kernel) (pa_cons (pv 1) pa_nil)) (pa_cons (pe_lst pa_nil) pa_nil)) (by rfl))
      (pss_cons (ps_for PassesOwn.never rfl (pi_range1 (by rfl) B.range (pa_cons (pe_callB (call_len' K) (by rfl) B.len PySem.boot_len (pa_cons (pv 2) pa_nil)) pa_nil)) (pg_name (i := 4) sc_law_mixed.nd rfl (.inl rfl))
       ((pss_one (ps_expr (pe_bm' K PySem.F.plainAttrs_list PySem.F.slot_list_append PySem.F.type_list_append mt_append (pv 3) (pa_cons (pe_bm' K PySem.F.plainAttrs_list PySem.F.slot_list_pop PySem.F.type_list_pop mt_popAt (pv 2) (pa_cons (pe_k c_law_taken hr (by decide) (by rfl) (pa_cons (pv 0) (pa_cons (pe_callB (call_len' K) (by rfl) B.len PySem.boot_len (pa_cons (pv 2) pa_nil)) pa_nil))) pa_nil)) pa_nil))))))
      (pss_one (ps_ret (pv 3))))), ?_⟩
    obtain ⟨pt, vs, rfl, hl, r⟩ := ht
    have evs := nats_of r
    subst evs
    refine q_par (p_cons (p_cb (p_cons (p_var rfl (p_nil ⟨pt, _, rfl, .inl (ex_l e hl), fun pl npl => p_cons ⟨Nat.zero_le _, fun pf npf => p_nil ⟨_, _, rfl, ?_⟩⟩⟩)))))
    have nfl : pf ≠ pl := ne_cell upd_same npf
    have nlr : pl ≠ row := hrow.ne npl
    have nfr : pf ≠ row := (hrow.upd (o := .lst (ks.map nV)) nlr).ne npf
    have x0 : Ex (del row H) (upd (upd H pl (.lst (ks.map nV))) pf (.lst [])) := del_ex.trans ((Ex.new npl).trans (Ex.new npf))
    have r0 : RowAt row sv (upd (upd H pl (.lst (ks.map nV))) pf (.lst [])) := (hrow.upd nlr).upd nfr
    have hpl0 : (upd (upd H pl (.lst (ks.map nV))) pf (.lst [])) pl = some (.lst (ks.map nV)) := keep_upd upd_same nfl
    have hpf0 : (upd (upd H pl (.lst (ks.map nV))) pf (.lst [])) pf = some (.lst []) := upd_same
    have Hpf : H pf = none := fresh_back (Ex.new npl) npf
    generalize (upd (upd H pl (.lst (ks.map nV))) pf (.lst [])) = H1 at x0 r0 hpl0 hpf0 ⊢
    refine q_for_rng (F := H1) (m := ks.length) (ev_to (ev_len (xs := ks.map nV) (ev_var rfl) (SqL.of hpl0)) (by rw [List.length_map])) (by omega) (Ex.refl H1) (fun i σ' H' => ∃ (y4 : Option V) (ls us : List Nat), σ' = [some (.ref row), some (.ref pt), some (.ref pl), some (.ref pf), y4] ∧ Ex (del row H) H' ∧ RowAt row sv H' ∧ H' pl = some (.lst (ls.map nV)) ∧ H' pf = some (.lst (us.map nV)) ∧ (us ++ ls).Perm ks ∧ ls.length + i = ks.length)
      (fun H2 x2 => ⟨_, ks, [], rfl, x0.trans x2, r0.ex x2, x2 _ _ hpl0, x2 _ _ hpf0, List.Perm.refl _, rfl⟩)
      (fun i σ' H' hi ⟨y4, ls, us, hσ, x, hr', hpl, hpf, pm, hlen⟩ => ?_) (fun σ' H' ⟨y4, ls, us, hσ, x, hr', hpl, hpf, pm, hlen⟩ => ?_)
    · subst hσ
      refine g_name ?_
      refine s_dropR (p_bm (p_var rfl ⟨.inl ⟨rfl, _, sq_of hpf⟩, p_cons (p_bm (p_var rfl ⟨.inl ⟨rfl, _, sq_of hpl⟩, p_cons (p_call (p_cons (p_var rfl (p_cons ((ev_len (H := H') (xs := ls.map nV) (ev_var rfl) (SqL.of hpl)) H' (Ex.refl H') _ fun H2 x2 => p_nil ⟨F, row, sv, script, ls.length, by rw [List.length_map]; rfl, ((ex_del e fr).trans x).trans x2, fr, hsc, hr'.ex x2, by omega, by omega, fun k H3 hk x3 r3 => ?_⟩)))))⟩))⟩))
      have x4 : Ex (del row H') H3 := fun a o ho => by
        by_cases c : a = row
        · rw [c, del_at] at ho; cases ho
        · rw [del_ne c] at ho
          exact x3 a o (by rw [del_ne c]; exact x2 a o ho)
      have h3l := del_keep x4 nlr hpl
      have h3f := del_keep x4 nfr hpf
      have hk2 : ls[k]? = some ls[k] := List.getElem?_eq_getElem hk
      refine p_nil ⟨pl, ls.map nV, (k : Int), k, nV ls[k], rfl, rfl, h3l, by omega, by omega, (ixN_seq (Evl.ixN_nat (by rw [List.length_map]; exact hk))).1, by rw [List.getElem?_map, hk2]; rfl, ?_⟩
      have ee : (ls.map nV).eraseIdx k = (ls.eraseIdx k).map nV := erase_map nV ls k
      rw [ee]
      refine p_nil ⟨pf, us.map nV, nV ls[k], rfl, rfl, keep_upd h3f (fun z => nfl z.symm), sz_lt (by
        have := pm.length_eq
        rw [List.length_append] at this
        rw [List.length_map]
        omega), ?_⟩
      refine ⟨_, ls.eraseIdx k, us ++ [ls[k]], rfl, Ex.mut (Ex.mut (del_step x x4) (by rw [del_ne nlr]; exact npl)) (by rw [del_ne nfr]; exact Hpf), (r3.upd nlr).upd nfr, keep_upd upd_same nfl, by rw [List.map_append]; exact upd_same, ?_, ?_⟩
      · rw [List.append_assoc]
        exact (List.Perm.append_left us (erase_perm ls k ls[k] hk2)).trans pm
      · rw [List.length_eraseIdx_of_lt hk]
        omega
    · subst hσ
      have hnil : ls = [] := List.eq_nil_of_length_eq_zero (by omega)
      subst hnil
      rw [List.append_nil] at pm
      exact s_retP (p_var rfl (q us pf H' pm Hpf x hr' hpf))
end
end Tr
namespace Tr
open PySem PySem.Spec PyProof.Rows L2 Evl RZ
/-! ### the tree of a web: the plain law -/
def mm (a b : Nat) : Nat × Nat := (min a b, max a b)
structure TreeOf (ns : List Nat) (k : Nat) (es : List (Nat × Nat)) : Prop where
  len : es.length + 1 = k
  edge : ∀ i, i + 1 < k → ∃ j a b, j ≤ i ∧ ns[i + 1]? = some a ∧ ns[j]? = some b ∧ es[i]? = some (mm a b)
theorem TreeOf.start (ns : List Nat) : TreeOf ns 1 [] := ⟨rfl, fun i h => by omega⟩
theorem TreeOf.more {ns : List Nat} {k j a b : Nat} {es : List (Nat × Nat)} (t : TreeOf ns k es) (hk : 1 ≤ k) (hj : j < k) (ha : ns[k]? = some a) (hb : ns[j]? = some b) : TreeOf ns (k + 1) (es ++ [mm a b]) := by
  have hl := t.len
  refine ⟨by rw [List.length_append, List.length_singleton]; omega, fun i hi => ?_⟩
  by_cases c : i + 1 < k
  · obtain ⟨j', a', b', h1, h2, h3, h4⟩ := t.edge i c
    exact ⟨j', a', b', h1, h2, h3, by rw [List.getElem?_append_left (by omega)]; exact h4⟩
  · have e : i + 1 = k := by omega
    refine ⟨j, a, b, by omega, by rw [e]; exact ha, hb, ?_⟩
    rw [List.getElem?_append_right (by omega), show i - es.length = 0 by omega]
    rfl
theorem nd_get {ns : List Nat} (nd : ns.Nodup) {i j a : Nat} (hi : ns[i]? = some a) (hj : ns[j]? = some a) : i = j := (List.getElem?_inj (List.getElem?_eq_some_iff.mp hi).1 nd).mp (hi.trans hj.symm)
theorem mm_adj {es : List (Nat × Nat)} {a b : Nat} (h : mm a b ∈ es) : Adj es a b := by
  unfold mm at h
  by_cases c : a ≤ b
  · rw [Nat.min_eq_left c, Nat.max_eq_right c] at h
    exact .inl h
  · rw [Nat.min_eq_right (by omega), Nat.max_eq_left (by omega)] at h
    exact .inr h
structure TreeOK (n : Nat) (es : List (Nat × Nat)) : Prop where
  pr : ∀ e ∈ es, e.1 < e.2 ∧ e.2 < n
  nd : es.Nodup
  len : es.length + 1 = n
  conn : Conn (n, es)
  two : ∃ c : Nat → Bool, ∀ e ∈ es, c e.1 ≠ c e.2
theorem mm_ne {c : Nat → Bool} {a b : Nat} (h : c a ≠ c b) : c (mm a b).1 ≠ c (mm a b).2 := by
  unfold mm
  by_cases q : a ≤ b
  · rw [Nat.min_eq_left q, Nat.max_eq_right q]
    exact h
  · rw [Nat.min_eq_right (by omega), Nat.max_eq_left (by omega)]
    exact fun z => h z.symm
theorem tree_color {ns : List Nat} {n : Nat} {es : List (Nat × Nat)} (t : TreeOf ns n es) (nd : ns.Nodup) : ∀ k, k ≤ n → ∃ c : Nat → Bool, ∀ i, i + 1 < k → ∀ e, es[i]? = some e → c e.1 ≠ c e.2
  | 0, _ => ⟨fun _ => true, fun i h => by omega⟩
  | k + 1, hk => by
    obtain ⟨c, hc⟩ := tree_color t nd k (by omega)
    by_cases h0 : k = 0
    · exact ⟨c, fun i h => by omega⟩
    · obtain ⟨j, a, b, h1, h2, h3, h4⟩ := t.edge (k - 1) (by omega)
      rw [show k - 1 + 1 = k by omega] at h2
      refine ⟨fun x => if x = a then !c b else c x, fun i hi e he => ?_⟩
      have hba : b ≠ a := fun z => by
        rw [z] at h3
        have := nd_get nd h3 h2
        omega
      by_cases hi2 : i + 1 < k
      · obtain ⟨j', a', b', q1, q2, q3, q4⟩ := t.edge i (by omega)
        have h5 := hc i hi2 e he
        rw [he] at q4
        have e1 := Option.some.inj q4
        have na : a' ≠ a := fun z => by
          rw [z] at q2
          have := nd_get nd q2 h2
          omega
        have nb : b' ≠ a := fun z => by
          rw [z] at q3
          have := nd_get nd q3 h2
          omega
        rw [e1] at h5 ⊢
        have hne : c a' ≠ c b' := by
          intro z
          refine h5 ?_
          unfold mm
          by_cases q : a' ≤ b'
          · rw [Nat.min_eq_left q, Nat.max_eq_right q]; exact z
          · rw [Nat.min_eq_right (by omega), Nat.max_eq_left (by omega)]; exact z.symm
        refine mm_ne (c := fun x => if x = a then !c b else c x) ?_
        show (if a' = a then !c b else c a') ≠ (if b' = a then !c b else c b')
        rw [if_neg na, if_neg nb]
        exact hne
      · have ei : i = k - 1 := by omega
        subst ei
        rw [he] at h4
        rw [Option.some.inj h4]
        refine mm_ne (c := fun x => if x = a then !c b else c x) ?_
        show (if a = a then !c b else c a) ≠ (if b = a then !c b else c b)
        rw [if_pos rfl, if_neg hba]
        cases c b <;> decide
theorem tree_ok {ns : List Nat} {n : Nat} {es : List (Nat × Nat)} (t : TreeOf ns n es) (pm : ns.Perm (List.range n)) : TreeOK n es := by
  have nd : ns.Nodup := pm.nodup_iff.mpr List.nodup_range
  have hlt : ∀ {i a : Nat}, ns[i]? = some a → a < n := fun h => List.mem_range.mp (pm.mem_iff.mp (List.mem_of_getElem? h))
  have hlen : ns.length = n := by rw [pm.length_eq, List.length_range]
  have hl := t.len
  refine ⟨fun e he => ?_, ?_, hl, ?_, ?_⟩
  · obtain ⟨i, hi⟩ := List.getElem?_of_mem he
    have hil := (List.getElem?_eq_some_iff.mp hi).1
    obtain ⟨j, a, b, h1, h2, h3, h4⟩ := t.edge i (by omega)
    rw [hi] at h4
    rw [Option.some.inj h4]
    have hne : a ≠ b := fun z => by
      rw [z] at h2
      have := nd_get nd h2 h3
      omega
    have := hlt h2
    have := hlt h3
    unfold mm
    simp only
    omega
  · rw [List.nodup_iff_pairwise_ne, List.pairwise_iff_getElem]
    intro i i' hi hi' hlt2 e
    obtain ⟨j, a, b, h1, h2, h3, h4⟩ := t.edge i (by omega)
    obtain ⟨j', a', b', q1, q2, q3, q4⟩ := t.edge i' (by omega)
    rw [List.getElem?_eq_getElem hi] at h4
    rw [List.getElem?_eq_getElem hi', ← e] at q4
    have e1 : mm a b = mm a' b' := (Option.some.inj h4).symm.trans (Option.some.inj q4)
    unfold mm at e1
    have e2 := congrArg Prod.fst e1
    have e3 := congrArg Prod.snd e1
    simp only at e2 e3
    have : a' = a ∨ a' = b := by omega
    rcases this with z | z
    · rw [z] at q2
      have := nd_get nd q2 h2
      omega
    · rw [z] at q2
      have := nd_get nd q2 h3
      omega
  · intro f hf Q hQ hstep v hv
    have adj : ∀ i, i + 1 < n → ∃ j a b, j ≤ i ∧ ns[i + 1]? = some a ∧ ns[j]? = some b ∧ Adj es a b := fun i hi => by
      obtain ⟨j, a, b, h1, h2, h3, h4⟩ := t.edge i hi
      exact ⟨j, a, b, h1, h2, h3, mm_adj (List.mem_of_getElem? h4)⟩
    have down : ∀ (i a : Nat), ns[i]? = some a → Q a → ∀ (r : Nat), ns[0]? = some r → Q r := by
      intro i
      induction i using Nat.strongRecOn with
      | _ i ih =>
        intro a ha hq r hr
        cases i with
        | zero =>
          rw [ha] at hr
          cases hr
          exact hq
        | succ i =>
          have hi := (List.getElem?_eq_some_iff.mp ha).1
          obtain ⟨j, a', b, h1, h2, h3, h4⟩ := adj i (by omega)
          rw [ha] at h2
          cases h2
          exact ih j (by omega) b h3 (hstep a b hq h4) r hr
    have up : ∀ (r : Nat), ns[0]? = some r → Q r → ∀ (i a : Nat), ns[i]? = some a → Q a := by
      intro r hr hq i
      induction i using Nat.strongRecOn with
      | _ i ih =>
        intro a ha
        cases i with
        | zero =>
          rw [hr] at ha
          cases ha
          exact hq
        | succ i =>
          have hi := (List.getElem?_eq_some_iff.mp ha).1
          obtain ⟨j, a', b, h1, h2, h3, h4⟩ := adj i (by omega)
          rw [ha] at h2
          cases h2
          exact hstep b a (ih j (by omega) b h3) h4.symm
    obtain ⟨i, hi⟩ := List.getElem?_of_mem (pm.mem_iff.mpr (List.mem_range.mpr hf))
    obtain ⟨i2, hi2⟩ := List.getElem?_of_mem (pm.mem_iff.mpr (List.mem_range.mpr hv))
    have h0 : ns[0]? = some (ns.getD 0 0) := get_getD 0 (by omega)
    exact up _ h0 (down i f hi hQ _ h0) i2 v hi2
  · obtain ⟨c, hc⟩ := tree_color t nd n (Nat.le_refl n)
    refine ⟨c, fun e he => ?_⟩
    obtain ⟨i, hi⟩ := List.getElem?_of_mem he
    have hil := (List.getElem?_eq_some_iff.mp hi).1
    exact hc i (by omega) e hi
end Tr
namespace Tr
open PySem PySem.Spec PyProof.Rows L2 Evl RZ
section
variable {K : PySem.W.Frag} {σ : L2.St} {F F' H G H2 : Hp} {ta tb tc te tx tl : TE} {t u : TT} {T U W : Type} {R : Rp T} {S : Rp U} {P : T → Prop} {D : Ends} {g : TG} {ts u2 : TS}
theorem Grow.row {row : Addr} {H' H'' : Hp} (g : Grow F (del row H) G H') (gr : G row = Option.none) (x : Ex (del row H') H'') : Grow F (del row H) G H'' :=
  ⟨del_step g.act x, g.fz, (ex_del g.sub gr).trans x, g.new⟩
theorem p_rg1 {te : TE} {Q : VK} (h : te σ H fun x H1 => ∃ n, x = .int n ∧ (RgOk 0 n ∧ ∀ q, H1 q = none → Q (.ref q) (upd H1 q (.lst (rgV 0 n))))) : tLstRg (tRg1 te) σ H Q := h
theorem p_rng2 {ta : TA} {R : It → Hp → Prop} (h : ta σ H fun vs H1 => ∃ i j : Int, vs = [.int i, .int j] ∧ (-(2 ^ 62) ≤ i ∧ i < 2 ^ 62 ∧ -(2 ^ 62) ≤ j ∧ j < 2 ^ 62) ∧ R (Itr i (j - i).toNat) H1) : iRng2 ta σ H R := h
theorem p_lst {ta : TA} {Q : VK} (h : ta σ H fun vs H1 => vs.length ≤ sizeLine ∧ ∀ p, H1 p = none → Q (.ref p) (upd H1 p (.lst vs))) : tLst ta σ H Q := h
theorem rgV_nats (n : Nat) : rgV 0 (n : Int) = (List.range n).map nV := by
  unfold rgV
  rw [show ((n : Int) - 0).toNat = n by omega]
  refine List.map_congr_left fun i _ => ?_
  show V.int (0 + (i : Int)) = V.int (i : Int)
  rw [Int.zero_add]
theorem ev_min2n {a b : Nat} (ha : Ev ta σ F (.int (a : Int))) (hb : Ev tb σ F (.int (b : Int))) : Ev (tCB (fun xs H Q => ∃ i j, xs = [.int i, .int j] ∧ Q (.int (if j < i then j else i)) H) (tCons ta (tCons tb tNil))) σ F (.int ((min a b : Nat) : Int)) := fun H e Q q =>
  p_cb (p_cons (ha H e _ fun H2 e2 => p_cons (hb H2 (e.trans e2) _ fun H3 e3 => p_nil ⟨(a : Int), (b : Int), rfl, by
    have e4 : (if (b : Int) < (a : Int) then (b : Int) else (a : Int)) = ((min a b : Nat) : Int) := by split <;> omega
    rw [e4]
    exact q H3 (e2.trans e3)⟩)))
theorem ev_max2n {a b : Nat} (ha : Ev ta σ F (.int (a : Int))) (hb : Ev tb σ F (.int (b : Int))) : Ev (tCB rMax2 (tCons ta (tCons tb tNil))) σ F (.int ((max a b : Nat) : Int)) := fun H e Q q =>
  p_cb (p_cons (ha H e _ fun H2 e2 => p_cons (hb H2 (e.trans e2) _ fun H3 e3 => p_nil ⟨(a : Int), (b : Int), rfl, by
    have e4 : (if (b : Int) > (a : Int) then (b : Int) else (a : Int)) = ((max a b : Nat) : Int) := by split <;> omega
    rw [e4]
    exact q H3 (e2.trans e3)⟩)))
/-- (min(a, b), max(a, b)) -/
theorem evr_mm {a b : Nat} {ta' tb' : TE} (ha : Ev ta σ F (.int (a : Int))) (hb : Ev tb σ F (.int (b : Int))) : EvR (rEdge K) (tTup (tCons (tCB (fun xs H Q => ∃ i j, xs = [.int i, .int j] ∧ Q (.int (if j < i then j else i)) H) (tCons ta (tCons tb tNil))) (tCons (tCB rMax2 (tCons ta (tCons tb tNil))) tNil))) σ F (mm a b) :=
  evr_pair (evr_nat (ev_min2n ha hb)) (evr_nat (ev_max2n ha hb))
end
section
variable {P : Program} {w : World} {K : PySem.W.Frag} {mg : Str → Option Value} {base : Heap}
def spTree (K : PySem.W.Frag) : Sp := fun vs H Q _ => ∃ (F : Hp) (row : Addr) (sv : V) (script : List Int) (n : Nat), vs = [.ref row, .int (n : Int)] ∧ Ex F H ∧ F row = none ∧ rLst K rInt F sv script ∧ RowAt row sv H ∧ 1 ≤ n ∧ n ≤ 9 ∧
  ∀ (es : List (Nat × Nat)) (p : Addr) (us : List V) G H2, TreeOK n es → Grow F (del row H) G H2 → RowAt row sv H2 → G p = none → G row = none → H p = none → H2 p = some (.lst us) → rSeq (rEdge K) G us es → Q (.ref p) H2
theorem sc_law_tree : FnScope ["_law_row", "_law_size", "_law_names", "_law_found", "_law_at", "_law_one", "_law_other"] ["_law_row", "_law_size"] (defScope (top 40)) := ⟨rfl, rfl, rfl, by decide +kernel, rfl, by decide +kernel, by decide +kernel⟩
theorem c_law_tree (D : Def K mg "_law_tree" (top 40) ["_law_row", "_law_size"]) (B : Bi mg) (c_law_mixed : Cal P w K mg base 2 "_law_mixed" (spMixed K)) (c_law_pick : Cal P w K mg base 2 "_law_pick" (spPick K)) (c_law_taken : Cal P w K mg base 1 "_law_taken" (spTaken K)) : Cal P w K mg base 3 "_law_tree" (spTree K) := by
  refine D.cal sc_law_tree (fun vs H Q E h => ?_) (fun fa cdv A outer s H vs Q E hr h => ?_)
  · obtain ⟨F, row, sv, script, n, rfl, _⟩ := h
    rfl
  · obtain ⟨F, row, sv, script, n, rfl, e, fr, hsc, hrow, hn1, hn9, q⟩ := h
    refine ⟨_, (pss_cons (ps_par (i := 2) (j := 3) rfl sc_law_tree.nd rfl rfl (by decide) rfl rfl (pa_cons (pe_k c_law_mixed hr (by decide) (by rfl) (pa_cons (pv 0) (pa_cons (pe_listRg rfl (by rfl) B.list_ (prg_1 (by rfl) B.range (pv 1))) pa_nil))) (pa_cons (pe_lst pa_nil) pa_nil)) (by rfl))
      (pss_cons (ps_for PassesOwn.never rfl (pi_range2 (by rfl) B.range (pa_cons pe_int (pa_cons (pv 1) pa_nil))) (pg_name (i := 4) sc_law_tree.nd rfl (.inl rfl))
       ((pss_cons (ps_par (i := 5) (j := 6) rfl sc_law_tree.nd rfl rfl (by decide) rfl rfl (pa_cons (pe_ix (ix_list' K) (pv 2) (pv 4) (fun _ _ => rfl)) (pa_cons (pe_ix (ix_list' K) (pv 2) (pe_k c_law_pick hr (by decide) (by rfl) (pa_cons (pv 0) (pa_cons (pe_lst (pa_cons pe_int (pa_cons (pe_op op_sub (pv 4) pe_int) (pa_cons (pe_k c_law_taken hr (by decide) (by rfl) (pa_cons (pv 0) (pa_cons (pv 4) pa_nil))) pa_nil)))) pa_nil))) (fun _ _ => rfl)) pa_nil)) (by rfl))
       (pss_one (ps_expr (pe_bm' K PySem.F.plainAttrs_list PySem.F.slot_list_append PySem.F.type_list_append mt_append (pv 3) (pa_cons (pe_tup (pa_cons (pe_callB (call_min2 rfl) (by rfl) B.min (by decide +kernel) (pa_cons (pv 5) (pa_cons (pv 6) pa_nil))) (pa_cons (pe_callB (call_max2 rfl) (by rfl) B.max (by decide +kernel) (pa_cons (pv 5) (pa_cons (pv 6) pa_nil))) pa_nil))) pa_nil)))))))
      (pss_one (ps_ret (pv 3))))), ?_⟩
    refine q_par (p_cons (p_call (p_cons (p_var rfl (p_cons (p_rg1 (p_var rfl ⟨(n : Int), rfl, RgOk.of_le (by omega) (by omega) (by omega) (by omega), fun pr npr => p_nil ?_⟩)))))))
    rw [rgV_nats]
    have nrr : pr ≠ row := hrow.ne npr
    refine ⟨upd F pr (.lst ((List.range n).map nV)), row, sv, .ref pr, script, List.range n, rfl, Ex.updl (e.trans (Ex.new npr)) upd_same, by rw [upd_ne (fun z => nrr z.symm)]; exact fr, Mono.mono (Ex.new (fresh_back e npr)) hsc, rnat_list (SqL.of upd_same), hrow.upd nrr, by rw [List.length_range]; omega, fun ns pn H1 pm npn x1 r1 hpn => ?_⟩
    have npn0 : H pn = none := fresh_back (Ex.new npr) npn
    have d1 : Ex (del row H) H1 := fun a o ho => by
      by_cases c : a = row
      · rw [c, del_at] at ho; cases ho
      · rw [del_ne c] at ho
        exact x1 a o (by rw [del_ne c]; exact Ex.new npr a o ho)
    refine p_cons ⟨Nat.zero_le _, fun pf npf => p_nil ⟨_, _, rfl, ?_⟩⟩
    have nfn : pf ≠ pn := ne_cell hpn npf
    have nfr : pf ≠ row := r1.ne npf
    have nnr : pn ≠ row := hrow.ne npn0
    have fpf : F pf = none := fresh_back ((ex_del e fr).trans d1) npf
    have dpf : del row H pf = none := fresh_back d1 npf
    have g1 : Grow F (del row H) F (upd H1 pf (.lst [])) := Grow.of (ex_del e fr) (d1.trans (Ex.new npf))
    have r2 : RowAt row sv (upd H1 pf (.lst [])) := r1.upd nfr
    have hpn2 : (upd H1 pf (.lst [])) pn = some (.lst (ns.map nV)) := keep_upd hpn nfn
    have hpf2 : (upd H1 pf (.lst [])) pf = some (.lst []) := upd_same
    have Hpf : H pf = none := by rw [del_ne nfr] at dpf; exact dpf
    have hnl : ns.length = n := by rw [pm.length_eq, List.length_range]
    generalize (upd H1 pf (.lst [])) = H2 at g1 r2 hpn2 hpf2 ⊢
    refine q_seq (p_for (p_rng2 (p_cons (p_c (p_cons (p_var rfl (p_nil ⟨1, (n : Int), rfl, ⟨by omega, by omega, by omega, by omega⟩, ?_⟩)))))))
    refine for_range (lo := 1) (fun i σ' H' => ∃ (y4 y5 y6 : Option V) (G : Hp) (us : List V) (es : List (Nat × Nat)), σ' = [some (.ref row), some (.int (n : Int)), some (.ref pn), some (.ref pf), y4, y5, y6] ∧ Grow F (del row H) G H' ∧ RowAt row sv H' ∧ G row = none ∧ G pf = none ∧ H' pn = some (.lst (ns.map nV)) ∧ H' pf = some (.lst us) ∧ rSeq (rEdge K) G us es ∧ TreeOf ns (i + 1) es)
      ⟨_, _, _, F, [], [], rfl, g1, r2, fr, fpf, hpn2, hpf2, .nil, TreeOf.start ns⟩ (fun i σ' H' hi ⟨y4, y5, y6, G, us, es, hσ, g, hr', gr, gf, hpn', hpf', hus, ht⟩ => ?_) (fun σ' H' ⟨y4, y5, y6, G, us, es, hσ, g, hr', gr, gf, hpn', hpf', hus, ht⟩ => ?_)
    · subst hσ
      have hi2 : i + 1 < n := by omega
      rw [show (1 : Int) + (i : Int) = ((i + 1 : Nat) : Int) by omega]
      refine g_name ?_
      have ha : ns[i + 1]? = some (ns.getD (i + 1) 0) := get_getD 0 (by omega)
      refine q_par (p_cons ((ev_cellI (i := i + 1) (v := nV (ns.getD (i + 1) 0)) hpn' (ev_var rfl) (ev_var rfl) (by rw [List.getElem?_map, ha]; rfl)) H' (Ex.refl H') _ fun H3 x3 => p_cons (p_op (p_var rfl (p_call (p_cons (p_var rfl (p_cons (p_lst (p_cons (p_c (p_cons ?_))))))))))) )
      refine (ev_to (x := .int (i : Int)) (ev_op (H := H3) (x := .int ((i + 1 : Nat) : Int)) (y := .int 1) (ev_var rfl) ev_c rv_I0) (by show V.int _ = V.int _; congr 1; omega)) H3 (Ex.refl H3) _ fun H4 x4 => ?_
      have x34 := x3.trans x4
      refine p_cons (p_call (p_cons (p_var rfl (p_cons (p_var rfl (p_nil ⟨G, row, sv, script, i + 1, rfl, g.sub.trans x34, gr, Mono.mono g.fz hsc, hr'.ex x34, by omega, by omega, fun k H5 hk x5 r5 => p_nil ⟨by show 3 ≤ sizeLine; decide, fun pl npl => p_nil ?_⟩⟩))))))
      have d5 : Ex (del row H') H5 := fun a o ho => by
        by_cases c : a = row
        · rw [c, del_at] at ho; cases ho
        · rw [del_ne c] at ho
          exact x5 a o (by rw [del_ne c]; exact x34 a o ho)
      have g5 := g.row gr d5
      have nlr : pl ≠ row := r5.ne npl
      refine ⟨upd G pl (.lst ([0, i, k].map nV)), row, sv, .ref pl, script, [0, i, k], rfl, Ex.updl (g5.sub.trans (Ex.new npl)) upd_same, by rw [upd_ne (fun z => nlr z.symm)]; exact gr, Mono.mono (g.fz.trans (Ex.new (g5.free npl).2)) hsc, rnat_list (SqL.of upd_same), r5.upd nlr, by show 0 < 3; decide, by show 3 < _; decide, fun i3 j H6 hj x6 r6 => ?_⟩
      have hj2 : j < i + 1 := by
        have hm := List.mem_of_getElem? hj
        simp only [List.mem_cons, List.not_mem_nil, or_false] at hm
        omega
      have d6 : Ex (del row H5) H6 := fun a o ho => by
        by_cases c : a = row
        · rw [c, del_at] at ho; cases ho
        · rw [del_ne c] at ho
          exact x6 a o (by rw [del_ne c]; exact Ex.new npl a o ho)
      have g6 := g5.row gr d6
      have hpn6 := del_keep d6 nnr (del_keep d5 nnr hpn')
      have hpf6 := del_keep d6 nfr (del_keep d5 nfr hpf')
      have hb : ns[j]? = some (ns.getD j 0) := get_getD 0 (by omega)
      refine ⟨pn, ns.map nV, (j : Int), nV (ns.getD j 0), rfl, rfl, SqL.of hpn6, atN (by rw [List.getElem?_map, hb]; rfl), p_nil ⟨_, _, rfl, ?_⟩⟩
      refine s_append (F := G) (l := pf) (R := rEdge K) (P := fun e => e = mm (ns.getD (i + 1) 0) (ns.getD j 0)) hpf6 gf (ev_var rfl) (evr_mm (ta' := tVar 5) (tb' := tVar 6) (ev_var rfl) (ev_var rfl)) g6.sub (by
        have h1 := seq_len hus
        have h2 := ht.len
        omega) fun ed ev G2 H7 hed g7 gf2 red => ?_
      subst hed
      have g8 : Grow F (del row H) G2 H7 := ⟨del_step g6.act (del_ex.trans g7.act), g6.fz.trans g7.fz, g7.sub, fun a o h => (g7.new a o h).elim (g6.new a o) fun z => .inr (fresh_back g6.act z)⟩
      have gr2 : G2 row = none := by
        obtain ⟨a, b, c, _, hh⟩ := r6
        exact g7.gone gr hh
      refine ⟨_, _, _, G2, us ++ [ev], es ++ [mm (ns.getD (i + 1) 0) (ns.getD j 0)], rfl, g8.wr gf2 dpf, (r6.ex g7.act).upd nfr, gr2, gf2, keep_upd (g7.act _ _ hpn6) nfn, upd_same, seq_app red (seq_mono g7.fz hus), ht.more (by omega) hj2 ha hb⟩
    · subst hσ
      rw [show ((n : Int) - 1).toNat + 1 = n by omega] at ht
      exact s_retP (p_var rfl (q es pf us G H' (tree_ok ht pm) g hr' gf gr Hpf hpf' hus))
end
end Tr
namespace Tr
open PySem PySem.Spec PyProof.Rows L2 Evl RZ
/-! ### a web out of a list of hedges -/
def iP (e : Nat × Nat) : Int × Int := ((e.1 : Int), (e.2 : Int))
def nP (e : Int × Int) : Nat × Nat := (e.1.toNat, e.2.toNat)
theorem nP_iP (e : Nat × Nat) : nP (iP e) = e := rfl
def lexL (e f : Nat × Nat) : Prop := e.1 < f.1 ∨ (e.1 = f.1 ∧ e.2 ≤ f.2)
theorem Adj.perm {es fs : List (Nat × Nat)} (h : ∀ e, e ∈ es → e ∈ fs) {u v : Nat} (a : Adj es u v) : Adj fs u v := a.elim (fun z => .inl (h _ z)) fun z => .inr (h _ z)
theorem Conn.more {n : Nat} {es fs : List (Nat × Nat)} (h : ∀ e, e ∈ es → e ∈ fs) (c : Conn (n, es)) : Conn (n, fs) := fun f hf Q hQ hs v hv => c f hf Q hQ (fun u w hu ha => hs u w hu (ha.perm h)) v hv
theorem web_form {n : Nat} {es fs : List (Nat × Nat)} (hn : 1 ≤ n) (hn9 : n ≤ 9) (pr : ∀ e ∈ es, e.1 < e.2 ∧ e.2 < n) (nd : es.Nodup) (hl : es.length ≤ 1000) (pm : fs.Perm es) (up : fs.Pairwise lexL) : WebForm (n, fs) := by
  refine ⟨hn, Nat.le_trans hn9 (by omega), fun e he => pr e (pm.mem_iff.mp he), ?_, by rw [pm.length_eq]; exact hl⟩
  have nd2 : fs.Nodup := pm.nodup_iff.mpr nd
  refine (List.Pairwise.and up (show fs.Pairwise (· ≠ ·) from nd2)).imp fun {a b} h => ?_
  obtain ⟨h1, h2⟩ := h
  rcases h1 with z | ⟨z1, z2⟩
  · exact .inl z
  · refine .inr ⟨z1, ?_⟩
    have : a.2 ≠ b.2 := fun q => h2 (Prod.ext z1 q)
    omega
section
variable {K : PySem.W.Frag} {σ : L2.St} {F F' H G H2 : Hp} {ta tb tc te tx tl : TE} {t u : TT} {T U W : Type} {R : Rp T} {S : Rp U} {P : T → Prop} {D : Ends} {g : TG} {ts u2 : TS}
theorem edge_tup {v : V} {e : Nat × Nat} (h : rEdge K H v e) : TupIs K (fun e : Int × Int => [e.1, e.2]) H v (iP e) := by
  obtain ⟨p, a, b, rfl, h1, h2, h3⟩ := h
  cases (show a = .int (e.1 : Int) from h2)
  cases (show b = .int (e.2 : Int) from h3)
  exact ⟨p, rfl, h1⟩
theorem tup_edge {v : V} {e : Nat × Nat} (h : TupIs K (fun e : Int × Int => [e.1, e.2]) H v (iP e)) : rEdge K H v e := by
  obtain ⟨p, rfl, h1⟩ := h
  exact ⟨p, _, _, rfl, h1, rfl, rfl⟩
theorem edges_tup : ∀ {vs : List V} {es : List (Nat × Nat)}, rSeq (rEdge K) H vs es → Paired (TupIs K (fun e : Int × Int => [e.1, e.2]) H) vs (es.map iP)
  | _, _, .nil => .nil
  | _, _, .cons a t => .cons (edge_tup a) (edges_tup t)
theorem tup_edges : ∀ {vs : List V} {es : List (Nat × Nat)}, Paired (TupIs K (fun e : Int × Int => [e.1, e.2]) H) vs (es.map iP) → rSeq (rEdge K) H vs es
  | _, [], .nil => .nil
  | _, _ :: _, .cons a t => .cons (tup_edge a) (tup_edges t)
theorem zip_map {T U W : Type} (f : U → W) : ∀ (a : List T) (b : List U), a.zip (b.map f) = (a.zip b).map fun z => (z.1, f z.2)
  | [], _ => rfl
  | _ :: _, [] => rfl
  | x :: a, y :: b => by
    rw [List.map_cons, List.zip_cons_cons, List.zip_cons_cons, List.map_cons, zip_map f a b]
/-- sorted(es) -/
theorem evp_sortE {es : List (Nat × Nat)} (h : EvR (rLst K (rEdge K)) te σ F es) : EvP (rLst K (rEdge K)) (fun fs => fs.Perm es ∧ fs.Pairwise lexL) (tCB (rSortedE K) (tCons te tNil)) σ F := fun H e Q q => p_cb (p_cons (h H e _ fun xs v G H2 px g r => p_nil (by
  subst px
  obtain ⟨p, vs, rfl, hl, r⟩ := r
  refine ⟨p, vs, xs.map iP, rfl, ex_l g.sub hl, edges_tup (seq_mono g.sub r), fun zs p2 pm pw n2 => ?_⟩
  have hback : ∀ z ∈ zs, rEdge K G z.1 (nP z.2) ∧ z.2 = iP (nP z.2) := fun z hz => by
    have hm := pm.mem_iff.mp hz
    rw [zip_map] at hm
    obtain ⟨y, hy, rfl⟩ := List.mem_map.mp hm
    exact ⟨zip_paired r y hy, rfl⟩
  have pm2 : (zs.map fun z => nP z.2).Perm xs := by
    have := pm.map fun z => nP z.2
    rw [zip_map, List.map_map] at this
    have e2 : (vs.zip xs).map ((fun z : V × (Int × Int) => nP z.2) ∘ fun z : V × (Nat × Nat) => (z.1, iP z.2)) = xs := by
      have e3 : ((fun z : V × (Int × Int) => nP z.2) ∘ fun z : V × (Nat × Nat) => (z.1, iP z.2)) = fun z => z.2 := rfl
      rw [e3]
      exact snd_zip (seq_len r)
    rw [e2] at this
    exact this
  have hpw : (zs.map fun z => nP z.2).Pairwise lexL := by
    rw [List.pairwise_map] at pw ⊢
    refine List.Pairwise.imp_of_mem (fun {a b} ha hb h => ?_) pw
    have ea := (hback a ha).2
    have eb := (hback b hb).2
    have h1 : a.2.1 = ((nP a.2).1 : Int) := congrArg Prod.fst ea
    have h2 : a.2.2 = ((nP a.2).2 : Int) := congrArg Prod.snd ea
    have h3 : b.2.1 = ((nP b.2).1 : Int) := congrArg Prod.fst eb
    have h4 : b.2.2 = ((nP b.2).2 : Int) := congrArg Prod.snd eb
    rcases h with z | ⟨z1, z2⟩
    · exact .inl (by omega)
    · exact .inr ⟨by omega, by omega⟩
  have g3 := (g.ex (Ex.new (o := .lst (zs.map (·.1))) n2)).put (g.free n2).1 upd_same
  have hseq : rSeq (rEdge K) G (zs.map (·.1)) (zs.map fun z => nP z.2) := by
    have e0 : zs.map (fun z => nP z.2) = (zs.map fun z => (z.1, nP z.2)).map (·.2) := by rw [List.map_map]; rfl
    have e1 : zs.map (·.1) = (zs.map fun z => (z.1, nP z.2)).map (·.1) := by rw [List.map_map]; rfl
    rw [e0, e1]
    exact paired_zip fun z hz => by
      obtain ⟨y, hy, rfl⟩ := List.mem_map.mp hz
      exact (hback y hy).1
  exact q _ _ _ _ ⟨pm2, hpw⟩ g3 ⟨p2, _, rfl, SqL.of upd_same, seq_mono (Ex.new (g.free n2).2) hseq⟩)))
/-- (n, tuple(sorted(es))) -/
theorem evp_webE {n : Nat} {es : List (Nat × Nat)} (hn : Ev ta σ F (.int (n : Int))) (h : EvR (rLst K (rEdge K)) te σ F es) : EvP (rWeb K) (fun wb => wb.1 = n ∧ wb.2.Perm es ∧ wb.2.Pairwise lexL) (tTup (tCons ta (tCons (tCB (rTupS K) (tCons (tCB (rSortedE K) (tCons te tNil)) tNil)) tNil))) σ F :=
  (evp_pair (evr_nat hn) (evp_tupL (evp_sortE h))).imp fun wb h => ⟨h.1, h.2⟩
end
end Tr
namespace Tr
open PySem PySem.Spec PyProof.Rows L2 Evl RZ
/-- hedges laid on a tree -/
structure WebMore (n : Nat) (c : Nat → Bool) (es0 es : List (Nat × Nat)) : Prop where
  sub : ∀ e ∈ es0, e ∈ es
  pr : ∀ e ∈ es, e.1 < e.2 ∧ e.2 < n
  nd : es.Nodup
  col : ∀ e ∈ es, c e.1 ≠ c e.2
theorem WebMore.add {n : Nat} {c : Nat → Bool} {es0 es : List (Nat × Nat)} (m : WebMore n c es0 es) {a b : Nat} (ha : a < n) (hb : b < n) (hc : c a ≠ c b) (hm : mm a b ∉ es) : WebMore n c es0 (es ++ [mm a b]) := by
  have hne : a ≠ b := fun z => hc (by rw [z])
  refine ⟨fun e he => List.mem_append_left _ (m.sub e he), fun e he => ?_, ?_, fun e he => ?_⟩
  · rcases List.mem_append.mp he with h | h
    · exact m.pr e h
    · rw [List.mem_singleton.mp h]
      unfold mm
      show min a b < max a b ∧ max a b < n
      omega
  · rw [List.nodup_append]
    refine ⟨m.nd, by simp, fun x hx y hy z => ?_⟩
    rw [List.mem_singleton.mp hy] at z
    rw [z] at hx
    exact hm hx
  · rcases List.mem_append.mp he with h | h
    · exact m.col e h
    · rw [List.mem_singleton.mp h]
      exact mm_ne hc
section
variable {K : PySem.W.Frag} {σ : L2.St} {F F' H G H2 : Hp} {ta tb tc te tx tl : TE} {t u : TT} {T U W : Type} {R : Rp T} {S : Rp U} {P : T → Prop} {D : Ends} {g : TG} {ts u2 : TS}
theorem et_notInE {x : Nat × Nat} {es : List (Nat × Nat)} (hx : EvR (rEdge K) ta σ F x) (h : EvR (rLst K (rEdge K)) tb σ F es) : EvT (tTest (tOp (rNotInD K) ta tb)) σ F (!(es.map (Dat.d (K := K) (R := rEdge K))).any fun z => PyData.eqv z (Dat.d (K := K) (R := rEdge K) x)) :=
  et_test (ev_opP (S := rLst K (rEdge K)) hx h fun x' y v w G e px py rx ry H1 e1 Q q => by
    subst px py
    exact ⟨_, _, Dat.ok (K := K) (R := rEdge K) (Mono.mono e1 rx), dp_lst (Mono.mono e1 ry), shaped_one (K := K) (R := rEdge K) x', shaped_list (K := K) (R := rEdge K) y, q H1 (Ex.refl H1)⟩)
theorem notInE {x : Nat × Nat} {es : List (Nat × Nat)} (h : (!(es.map (Dat.d (K := K) (R := rEdge K))).any fun z => PyData.eqv z (Dat.d (K := K) (R := rEdge K) x)) = true) : x ∉ es := fun hm => by
  rw [Bool.not_eq_true', ← Bool.not_eq_true, List.any_eq_true] at h
  refine h ⟨_, List.mem_map_of_mem hm, ?_⟩
  show PyData.eqv (.tuple [.int (x.1 : Int), .int (x.2 : Int)]) (.tuple [.int (x.1 : Int), .int (x.2 : Int)]) = true
  simp [PyData.eqv, PyData.eqvAll]
theorem p_rng1 {ta : TA} {R : It → Hp → Prop} (h : ta σ H fun vs H1 => ∃ j : Int, vs = [.int j] ∧ -(2 ^ 62) ≤ j ∧ j < 2 ^ 62 ∧ R (Itr 0 j.toNat) H1) : iRng1 ta σ H R := h
theorem del_grow {row : Addr} {H1 : Hp} (x1 : Ex (del row H) H1) (g : Grow F (del row H1) G H2) : Grow F (del row H) G H2 := ⟨del_step x1 g.act, g.fz, g.sub, fun a o h => (g.new a o h).elim .inl fun z => .inr (by
  by_cases c : a = row
  · rw [c]; exact del_at
  · rw [del_ne c] at z
    exact fresh_back x1 z)⟩
theorem Grow.goneR {row : Addr} {sv : V} (g : Grow F H G H2) (f : F row = Option.none) (r : RowAt row sv H) : G row = Option.none := by
  obtain ⟨a, b, c, _, hh⟩ := r
  exact g.gone f hh
end
section
variable {P : Program} {w : World} {K : PySem.W.Frag} {mg : Str → Option Value} {base : Heap}
def spWebL (K : PySem.W.Frag) : Sp := fun vs H Q _ => ∃ (F : Hp) (row : Addr) (sv : V) (script : List Int), vs = [.ref row, .int 9] ∧ Ex F H ∧ F row = none ∧ rLst K rInt F sv script ∧ RowAt row sv H ∧
  ∀ (wb : Web) x G H2, WebOK wb → Grow F (del row H) G H2 → RowAt row sv H2 → rWeb K G x wb → Q x H2
theorem sc_law_web : FnScope ["_law_row", "_law_most", "_law_size", "_law_hedges", "_law_told", "_law_web_here", "_law_step", "_law_one", "_law_other"] ["_law_row", "_law_most"] (defScope (top 41)) := ⟨rfl, rfl, rfl, by decide +kernel, rfl, by decide +kernel, by decide +kernel⟩
theorem c_law_web (D : Def K mg "_law_web" (top 41) ["_law_row", "_law_most"]) (B : Bi mg) (c_law_taken : Cal P w K mg base 1 "_law_taken" (spTaken K)) (c_law_tree : Cal P w K mg base 3 "_law_tree" (spTree K)) (c_law_far : Cal P w K mg base 2 "_law_far" (spReach K)) (c_law_pick : Cal P w K mg base 2 "_law_pick" (spPick K)) : Cal P w K mg base 4 "_law_web" (spWebL K) := by
  refine D.cal sc_law_web (fun vs H Q E h => ?_) (fun fa cdv A outer s H vs Q E hr h => ?_)
  · obtain ⟨F, row, sv, script, rfl, _⟩ := h
    rfl
  · obtain ⟨F, row, sv, script, rfl, e, fr, hsc, hrow, q⟩ := h
    refine ⟨_, (pss_cons (ps_set (i := 2) sc_law_web.nd rfl (.inl rfl) (pe_op op_add pe_int (pe_k c_law_taken hr (by decide) (by rfl) (pa_cons (pv 0) (pa_cons (pv 1) pa_nil)))))
      (pss_cons (ps_set (i := 3) sc_law_web.nd rfl (.inl rfl) (pe_k c_law_tree hr (by decide) (by rfl) (pa_cons (pv 0) (pa_cons (pv 2) pa_nil))))
      (pss_cons (ps_par (i := 4) (j := 5) rfl sc_law_web.nd rfl rfl (by decide) rfl rfl (pa_cons (pe_k c_law_far hr (by decide) (by rfl) (pa_cons (pe_tup (pa_cons (pv 2) (pa_cons (pe_callTy (call_tuple' K) (by rfl) B.tuple_ (by decide +kernel) (pa_cons (pe_callB (cr_sortedE K hr) (by rfl) B.sorted (by decide +kernel) (pa_cons (pv 3) pa_nil)) pa_nil)) pa_nil))) (pa_cons pe_int pa_nil))) (pa_cons (pe_callTy (call_list' K) (by rfl) B.list_ (by decide +kernel) (pa_cons (pv 3) pa_nil)) pa_nil)) (by rfl))
      (pss_cons (ps_for PassesOwn.never rfl (pi_range1 (by rfl) B.range (pa_cons (pe_k c_law_pick hr (by decide) (by rfl) (pa_cons (pv 0) (pa_cons (pe_lst (pa_cons pe_int (pa_cons pe_int (pa_cons pe_int (pa_cons pe_int (pa_cons (pv 2) pa_nil)))))) pa_nil))) pa_nil)) (pg_name (i := 6) sc_law_web.nd rfl (.inl rfl))
       ((pss_cons (ps_par (i := 7) (j := 8) rfl sc_law_web.nd rfl rfl (by decide) rfl rfl (pa_cons (pe_k c_law_taken hr (by decide) (by rfl) (pa_cons (pv 0) (pa_cons (pv 2) pa_nil))) (pa_cons (pe_k c_law_taken hr (by decide) (by rfl) (pa_cons (pv 0) (pa_cons (pv 2) pa_nil))) pa_nil)) (by rfl))
       (pss_one (ps_if (PW.pt (pw_and (pt_cmpR op_eq (pe_op op_mod (pe_op op_sub (pe_ix (ix_list' K) (pv 4) (pv 7) (fun _ _ => rfl)) (pe_ix (ix_list' K) (pv 4) (pv 8) (fun _ _ => rfl))) pe_int) pe_int (nomark _)) (pw_and1 (pt_cmpR (op_notInD' K (hu65 hr)) (pe_tup (pa_cons (pe_callB (call_min2 rfl) (by rfl) B.min (by decide +kernel) (pa_cons (pv 7) (pa_cons (pv 8) pa_nil))) (pa_cons (pe_callB (call_max2 rfl) (by rfl) B.max (by decide +kernel) (pa_cons (pv 7) (pa_cons (pv 8) pa_nil))) pa_nil))) (pv 5) rfl))))
        ((pss_one (ps_expr (pe_bm' K PySem.F.plainAttrs_list PySem.F.slot_list_append PySem.F.type_list_append mt_append (pv 5) (pa_cons (pe_tup (pa_cons (pe_callB (call_min2 rfl) (by rfl) B.min (by decide +kernel) (pa_cons (pv 7) (pa_cons (pv 8) pa_nil))) (pa_cons (pe_callB (call_max2 rfl) (by rfl) B.max (by decide +kernel) (pa_cons (pv 7) (pa_cons (pv 8) pa_nil))) pa_nil))) pa_nil)))))
        (pss_nil))))))
      (pss_one (ps_ret (pe_tup (pa_cons (pv 2) (pa_cons (pe_callTy (call_tuple' K) (by rfl) B.tuple_ (by decide +kernel) (pa_cons (pe_callB (cr_sortedE K hr) (by rfl) B.sorted (by decide +kernel) (pa_cons (pv 5) pa_nil)) pa_nil)) pa_nil))))))))), ?_⟩
    -- size
    refine q_raw (p_op (p_c (p_call (p_cons (p_var rfl (p_cons (p_var rfl (p_nil ⟨F, row, sv, script, 9, rfl, e, fr, hsc, hrow, by decide, by decide, fun k H1 hk x1 r1 => ⟨1, (k : Int), rfl, rfl, ?_⟩⟩))))))))
    obtain ⟨n, hn, hn1, hn9⟩ : ∃ n : Nat, (1 : Int) + (k : Int) = (n : Int) ∧ 1 ≤ n ∧ n ≤ 9 := ⟨k + 1, by omega, by omega, by omega⟩
    dsimp only
    rw [hn]
    have eF1 : Ex F H1 := (ex_del e fr).trans x1
    -- tree
    refine q_raw (p_call (p_cons (p_var rfl (p_cons (p_var rfl (p_nil ⟨F, row, sv, script, n, rfl, eF1, fr, hsc, r1, hn1, hn9, fun es pt us G2 H2 tr g2 r2 Gp Gr H1p hpt rus => ?_⟩))))))
    have g2 := del_grow x1 g2
    have ntr : pt ≠ row := r1.ne H1p
    have g3 : Grow F (del row H) (upd G2 pt (.lst us)) H2 := g2.put (fresh_back x1 H1p) hpt
    have Gr3 : (upd G2 pt (.lst us)) row = none := by rw [upd_ne (fun z => ntr z.symm)]; exact Gr
    have hSq : SqL K (upd G2 pt (.lst us)) pt us := SqL.of upd_same
    have rus3 : rSeq (rEdge K) (upd G2 pt (.lst us)) us es := seq_mono (Ex.new Gp) rus
    generalize (upd G2 pt (.lst us)) = G3 at g3 Gr3 hSq rus3
    refine q_par (p_cons (p_call (p_cons ((evp_webE (n := n) (es := es) (F := G3) (ev_var rfl) (evr_var rfl ⟨pt, us, rfl, hSq, rus3⟩)) H2 g3.sub _ fun wb x G4 H4 hwb g4 rw4 => ?_))))
    obtain ⟨n', fs⟩ := wb
    obtain ⟨h1, pm, up⟩ := hwb
    simp only at h1 pm up
    subst h1
    have tl := tr.len
    have wf : WebForm (n', fs) := web_form hn1 hn9 tr.pr tr.nd (by omega) pm up
    have hcn : Conn (n', fs) := Conn.more (fun e h => pm.mem_iff.mpr h) tr.conn
    refine p_cons (p_c (p_nil ⟨G4, x, (n', fs), 0, rfl, g4.sub, rw4, wf, hcn, by show 0 < n'; omega, fun ds xd G5 H5 A g5 rd => p_cons (p_cb (p_cons (p_var rfl (p_nil ⟨pt, us, rfl, .inl (ex_l (g3.sub.trans (g4.act.trans g5.act)) hSq), fun pw npw => p_nil ⟨_, _, rfl, ?_⟩⟩))))⟩))
    have two4 : ∃ c : Nat → Bool, ∀ e ∈ fs, c e.1 ≠ c e.2 := by
      obtain ⟨c, hc⟩ := tr.two
      exact ⟨c, fun e h => hc e (pm.mem_iff.mp h)⟩
    have r5 := (r2.ex g4.act).ex g5.act
    have nwr : pw ≠ row := r5.ne npw
    have gg := (g3.trans g4).trans g5
    have Gr5 : G5 row = none := g5.goneR (g4.goneR Gr3 r2) (r2.ex g4.act)
    have Gw5 : G5 pw = none := (gg.free npw).2
    have Dw : (del row H) pw = none := (gg.free npw).1
    have gg := gg.ex (Ex.new (o := .lst us) npw)
    have r6 := r5.upd (o := .lst us) nwr
    have hpw6 : (upd H5 pw (.lst us)) pw = some (.lst us) := upd_same
    have rus5 := seq_mono (g4.fz.trans g5.fz) rus3
    generalize (upd H5 pw (.lst us)) = H6 at gg r6 hpw6 ⊢
    refine q_seq (p_for (p_rng1 (p_cons (p_call (p_cons (p_var rfl (p_cons (p_lst (p_cons (p_c (p_cons (p_c (p_cons (p_c (p_cons (p_c (p_cons (p_var rfl (p_nil ⟨by show 5 ≤ sizeLine; decide, fun pl npl => p_nil ?_⟩)))))))))))))))))))
    have r6' := r6.upd (o := .lst ([0, 0, 1, 2, n'].map nV)) (r6.ne npl)
    refine ⟨upd G5 pl (.lst ([0, 0, 1, 2, n'].map nV)), row, sv, .ref pl, script, [0, 0, 1, 2, n'], rfl, Ex.updl (gg.sub.trans (Ex.new npl)) upd_same, by rw [upd_ne (fun z => (r6.ne npl) z.symm)]; exact Gr5, Mono.mono (gg.fz.trans (Ex.new (gg.free npl).2)) hsc, rnat_list (SqL.of upd_same), r6', by show 0 < 5; decide, by show 5 < _; decide, fun i m H7 hm x7 r7 => p_nil ⟨(m : Int), rfl, by omega, ?_⟩⟩
    have hm9 : m ≤ 9 := by
      have hmm := List.mem_of_getElem? hm
      simp only [List.mem_cons, List.not_mem_nil, or_false] at hmm
      omega
    refine ⟨by omega, ?_⟩
    have d7 : Ex (del row H6) H7 := fun a o ho => by
      by_cases c : a = row
      · rw [c, del_at] at ho; cases ho
      · rw [del_ne c] at ho
        exact x7 a o (by rw [del_ne c]; exact Ex.new npl a o ho)
    have g7 := gg.row Gr5 d7
    have hpw7 := del_keep d7 nwr hpw6
    have hfs : ∀ e, e ∈ fs ↔ e ∈ es := fun e => pm.mem_iff
    -- loop
    refine for_range (lo := 0) (fun i σ' H' => ∃ (y6 y7 y8 : Option V) (G : Hp) (us : List V) (es' : List (Nat × Nat)), σ' = [some (.ref row), some (.int 9), some (.int (n' : Int)), some (.ref pt), some xd, some (.ref pw), y6, y7, y8] ∧ Grow F (del row H) G H' ∧ Ex G5 G ∧ RowAt row sv H' ∧ G row = none ∧ G pw = none ∧ H' pw = some (.lst us) ∧ rSeq (rEdge K) G us es' ∧ WebMore n' (fun v => decide (ds.getD v 0 % 2 = 0)) es es' ∧ es'.length ≤ n' + i)
      ⟨_, _, _, G5, us, es, rfl, g7, Ex.refl G5, r7, Gr5, Gw5, hpw7, rus5, ⟨fun e h => h, tr.pr, tr.nd, fun e he => ?_⟩, by omega⟩ (fun i σ' H' hi ⟨y6, y7, y8, G, us', es', hσ, g, gx, hr', gr, gw, hpw', hus, hw, hl⟩ => ?_) (fun σ' H' ⟨y6, y7, y8, G, us', es', hσ, g, gx, hr', gr, gw, hpw', hus, hw, hl⟩ => ?_)
    · obtain ⟨p1, p2⟩ := tr.pr e he
      have e1 : ds[e.1]? = some (ds.getD e.1 0) := get_getD 0 (by rw [A.len]; show e.1 < n'; omega)
      have e2 : ds[e.2]? = some (ds.getD e.2 0) := get_getD 0 (by rw [A.len]; exact p2)
      have := away_edge A two4 ((hfs e).mpr he) e1 e2
      intro z
      have z2 := decide_eq_decide.mp z
      omega
    · subst hσ
      refine g_name ?_
      have eF : Ex F H' := g.fz.trans g.sub
      refine q_par (p_cons (p_call (p_cons (p_var rfl (p_cons (p_var rfl (p_nil ⟨F, row, sv, script, n', rfl, eF, fr, hsc, hr', by omega, by omega, fun a H8 ha x8 r8 => p_cons (p_call (p_cons (p_var rfl (p_cons (p_var rfl (p_nil ⟨F, row, sv, script, n', rfl, (ex_del eF fr).trans x8, fr, hsc, r8, by omega, by omega, fun b H9 hb x9 r9 => p_nil ⟨_, _, rfl, ?_⟩⟩))))))⟩)))))))
      have d9 := del_step x8 x9
      have g9 := g.row gr d9
      have hpw9 := del_keep d9 nwr hpw'
      have rd9 : rLst K rNat H9 xd ds := Mono.mono (gx.trans g9.sub) rd
      have ea : ds[a]? = some (ds.getD a 0) := get_getD 0 (by rw [A.len]; exact ha)
      have eb : ds[b]? = some (ds.getD b 0) := get_getD 0 (by rw [A.len]; exact hb)
      have k3 := ev_nat (evr_ixL (σ := [some (.ref row), some (.int 9), some (.int (n' : Int)), some (.ref pt), some xd, some (.ref pw), some (.int (0 + (i : Int))), some (.int (a : Int)), some (.int (b : Int))]) (tb := tVar 7) (evr_var (i := 4) rfl rd9) (ev_var rfl) (atN ea))
      have k4 := ev_nat (evr_ixL (σ := [some (.ref row), some (.int 9), some (.int (n' : Int)), some (.ref pt), some xd, some (.ref pw), some (.int (0 + (i : Int))), some (.int (a : Int)), some (.int (b : Int))]) (tb := tVar 8) (evr_var (i := 4) rfl rd9) (ev_var rfl) (atN eb))
      refine s_ifB (F := H9) (et_and (et_test (ev_op (ev_op (ev_op k3 k4 rv_I0) ev_c (rv_I (by show (0 : Int) < 2; decide))) ev_c (rv_eq rfl))) fun _ => et_notInE (x := mm a b) (es := es') (evr_mm (ta' := tVar 7) (tb' := tVar 8) (ev_var rfl) (ev_var rfl)) (evr_var rfl ⟨pw, us', rfl, SqL.of hpw9, seq_mono g9.sub hus⟩)) (Ex.refl H9) (fun hk H10 x10 => ?_) (fun hk H10 x10 => ?_)
      · rw [Bool.and_eq_true] at hk
        obtain ⟨hk1, hk2⟩ := hk
        have hni := notInE hk2
        have hodd := V.int.inj (of_decide_eq_true hk1)
        have hl2 := seq_len hus
        refine s_append (F := G) (l := pw) (R := rEdge K) (P := fun e => e = mm a b) (x10 _ _ hpw9) gw (ev_var rfl) (evr_mm (ta' := tVar 7) (tb' := tVar 8) (ev_var rfl) (ev_var rfl)) (g9.sub.trans x10) (by omega) fun ed ev G2 H11 hed g11 gw2 red => ?_
        subst hed
        have g12 : Grow F (del row H) G2 H11 := ⟨del_step g9.act (del_ex.trans (x10.trans g11.act)), g9.fz.trans g11.fz, g11.sub, fun a o h => (g11.new a o h).elim (g9.new a o) fun z => .inr (fresh_back (g9.act.trans x10) z)⟩
        have gr2 : G2 row = none := by
          obtain ⟨a, b, c, _, hh⟩ := r9.ex x10
          exact g11.gone gr hh
        refine ⟨_, _, _, G2, us' ++ [ev], es' ++ [mm a b], rfl, g12.wr gw2 Dw, gx.trans g11.fz, (r9.ex (x10.trans g11.act)).upd nwr, gr2, gw2, upd_same, seq_app red (seq_mono g11.fz hus), hw.add ha hb ?_ hni, ?_⟩
        · intro z
          have z2 := decide_eq_decide.mp z
          omega
        · rw [List.length_append, List.length_singleton]
          omega
      · exact ⟨_, _, _, G, us', es', rfl, g9.ex x10, gx, r9.ex x10, gr, gw, x10 _ _ hpw9, hus, hw, by omega⟩
    · subst hσ
      have gz : Grow F (del row H) (upd G pw (.lst us')) H' := g.put Dw hpw'
      have hz : rLst K (rEdge K) (upd G pw (.lst us')) (.ref pw) es' := ⟨pw, us', rfl, SqL.of upd_same, seq_mono (Ex.new gw) hus⟩
      refine s_ret (evp_webE (n := n') (es := es') (F := upd G pw (.lst us')) (ev_var rfl) (evr_var rfl hz)) gz.sub fun wb x G9 H9 hwb g9 rw9 => ?_
      obtain ⟨n2, fs2⟩ := wb
      obtain ⟨h1, pm2, up2⟩ := hwb
      simp only at h1 pm2 up2
      subst h1
      refine q (n2, fs2) x G9 H9 ⟨web_form hn1 hn9 hw.pr hw.nd (by omega) pm2 up2, hn9, Conn.more (fun e h => pm2.mem_iff.mpr (hw.sub e h)) tr.conn, ⟨fun v => decide (ds.getD v 0 % 2 = 0), fun e h => hw.col e (pm2.mem_iff.mp h)⟩⟩ (gz.trans g9) (hr'.ex g9.act) rw9
end
end Tr
namespace Tr
open PySem PySem.Spec PyProof.Rows L2 Evl RZ
/-! ### all layings, field by field: the plain law -/
structure PLay (wb : Web) (ns : List Nat) (k : Nat) (p : List Int) : Prop where
  len : p.length = wb.1
  zero : p.getD 0 0 = 0
  adj : ∀ u v, u ∈ ns.take k → v ∈ ns.take k → Adj wb.2 u v → p.getD u 0 - p.getD v 0 = 1 ∨ p.getD v 0 - p.getD u 0 = 1
  out : ∀ v, v ∉ ns.take k → p.getD v 0 = 0
structure OrdOK (wb : Web) (ns : List Nat) : Prop where
  pm : ns.Perm (List.range wb.1)
  first : ns[0]? = some 0
  back : ∀ k c, 1 ≤ k → ns[k]? = some c → c ≠ 0 ∧ ∃ u, u ∈ ns.take k ∧ Adj wb.2 u c
theorem OrdOK.nd {wb : Web} {ns : List Nat} (o : OrdOK wb ns) : ns.Nodup := o.pm.nodup_iff.mpr List.nodup_range
theorem OrdOK.len {wb : Web} {ns : List Nat} (o : OrdOK wb ns) : ns.length = wb.1 := by rw [o.pm.length_eq, List.length_range]
theorem get_mem_take {ns : List Nat} {j k c : Nat} (h : ns[j]? = some c) (hj : j < k) : c ∈ ns.take k := by
  refine List.mem_of_getElem? (i := j) ?_
  rw [List.getElem?_take_of_lt hj]
  exact h
theorem take_get {ns : List Nat} {k c : Nat} (h : c ∈ ns.take k) : ∃ j, j < k ∧ ns[j]? = some c := by
  obtain ⟨j, hj⟩ := List.getElem?_of_mem h
  have hl := (List.getElem?_eq_some_iff.mp hj).1
  rw [List.length_take] at hl
  have hk : j < k := by omega
  rw [List.getElem?_take_of_lt hk] at hj
  exact ⟨j, hk, hj⟩
theorem take_more {ns : List Nat} {k c : Nat} (h : ns[k]? = some c) : ns.take (k + 1) = ns.take k ++ [c] := by
  rw [List.take_add_one, h]
  rfl
theorem ord_of {wb : Web} {ns ds : List Nat} (A : Away wb 0 ds) (wf : WebForm wb) (pm : ns.Perm (List.range wb.1)) (up : ns.Pairwise (KeyLe (ds.map fun (d : Nat) => (d : Int)))) : OrdOK wb ns := by
  have nd : ns.Nodup := pm.nodup_iff.mpr List.nodup_range
  have hl : ns.length = wb.1 := by rw [pm.length_eq, List.length_range]
  have hlt : ∀ c, c ∈ ns → c < wb.1 := fun c h => List.mem_range.mp (pm.mem_iff.mp h)
  have val : ∀ c, c < wb.1 → (ds.map fun (d : Nat) => (d : Int)).getD c 0 = ((ds.getD c 0 : Nat) : Int) := fun c h => getD_map (fun (d : Nat) => (d : Int)) ds c 0 0 (by rw [A.len]; exact h)
  have le : ∀ i j a b, i < j → ns[i]? = some a → ns[j]? = some b → ds.getD a 0 < ds.getD b 0 ∨ (ds.getD a 0 = ds.getD b 0 ∧ a ≤ b) := fun i j a b hij ha hb => by
    obtain ⟨h1, e1⟩ := List.getElem?_eq_some_iff.mp ha
    obtain ⟨h2, e2⟩ := List.getElem?_eq_some_iff.mp hb
    have := (List.pairwise_iff_getElem.mp up) i j h1 h2 hij
    rw [e1, e2] at this
    unfold KeyLe at this
    rw [val a (hlt a (List.mem_of_getElem? ha)), val b (hlt b (List.mem_of_getElem? hb))] at this
    omega
  have z0 : 0 < wb.1 := by
    have := (List.getElem?_eq_some_iff.mp A.at0).1
    rw [A.len] at this
    exact this
  have d0 : ds.getD 0 0 = 0 := getD_of A.at0
  have first : ns[0]? = some 0 := by
    obtain ⟨j, hj⟩ := List.getElem?_of_mem (pm.mem_iff.mpr (List.mem_range.mpr z0))
    by_cases c : j = 0
    · rw [c] at hj; exact hj
    · have ha : ns[0]? = some (ns.getD 0 0) := get_getD 0 (by omega)
      have := le 0 j _ 0 (by omega) ha hj
      rw [ha]
      congr 1
      omega
  refine ⟨pm, first, fun k c hk hc => ?_⟩
  have hne : c ≠ 0 := fun z => by
    rw [z] at hc
    have := nd_get nd hc first
    omega
  have hcl := hlt c (List.mem_of_getElem? hc)
  have hd : ds[c]? = some (ds.getD c 0) := get_getD 0 (by rw [A.len]; exact hcl)
  obtain ⟨u, d', ha, hu, he⟩ := A.back c _ hd hne
  have hul := (wf.adj ha).1
  obtain ⟨j, hj⟩ := List.getElem?_of_mem (pm.mem_iff.mpr (List.mem_range.mpr hul))
  have hu2 : ds.getD u 0 = d' := getD_of hu
  refine ⟨hne, u, get_mem_take hj ?_, ha⟩
  rcases Nat.lt_trichotomy j k with q | q | q
  · exact q
  · subst q
    rw [hj] at hc
    cases hc
    omega
  · have := le k j c u q hc hj
    omega
def okY (so : List Nat) (p : List Int) (y : Int) : Bool := so.all fun u => decide (p.getD u 0 - y = 1 ∨ y - p.getD u 0 = 1)
def ysOf (so : List Nat) (p : List Int) : List Int := [p.getD (so.getD 0 0) 0 - 1, p.getD (so.getD 0 0) 0 + 1].filter (okY so p)
def grow1 (so : List Nat) (c : Nat) (p : List Int) : List (List Int) := (ysOf so p).map fun y => p.set c y
def growN (so : List Nat) (c : Nat) (ps : List (List Int)) : List (List Int) := ps.flatMap (grow1 so c)
structure AllP (wb : Web) (ns : List Nat) (k : Nat) (ps : List (List Int)) : Prop where
  nd : ps.Nodup
  mem : ∀ p, p ∈ ps ↔ PLay wb ns k p
  len : ps.length ≤ 2 ^ (k - 1)
theorem set_getD {p : List Int} {c v : Nat} {y : Int} (h : c < p.length) : (p.set c y).getD v 0 = if c = v then y else p.getD v 0 := getD_set p c v y 0 h
theorem mem_grow1 {so : List Nat} {c : Nat} {p q : List Int} : q ∈ grow1 so c p ↔ ∃ y, (y = p.getD (so.getD 0 0) 0 - 1 ∨ y = p.getD (so.getD 0 0) 0 + 1) ∧ (∀ u ∈ so, p.getD u 0 - y = 1 ∨ y - p.getD u 0 = 1) ∧ q = p.set c y := by
  unfold grow1 ysOf okY
  constructor
  · intro h
    obtain ⟨y, hy, rfl⟩ := List.mem_map.mp h
    obtain ⟨h1, h2⟩ := List.mem_filter.mp hy
    refine ⟨y, ?_, fun u hu => of_decide_eq_true (List.all_eq_true.mp h2 u hu), rfl⟩
    simp only [List.mem_cons, List.not_mem_nil, or_false] at h1
    exact h1
  · rintro ⟨y, h1, h2, rfl⟩
    refine List.mem_map.mpr ⟨y, List.mem_filter.mpr ⟨?_, List.all_eq_true.mpr fun u hu => decide_eq_true (h2 u hu)⟩, rfl⟩
    simp only [List.mem_cons, List.not_mem_nil, or_false]
    exact h1
theorem grow1_nd {so : List Nat} {c : Nat} {p : List Int} (h : c < p.length) : (grow1 so c p).Nodup := by
  unfold grow1 ysOf
  refine nodup_map ?_ fun y _ y' _ e => ?_
  · refine List.Pairwise.filter _ ?_
    refine List.nodup_cons.mpr ⟨fun h => ?_, List.nodup_cons.mpr ⟨by simp, List.nodup_nil⟩⟩
    rw [List.mem_singleton] at h
    omega
  · have h1 : (p.set c y).getD c 0 = (p.set c y').getD c 0 := congrArg (fun l => l.getD c 0) e
    rw [set_getD h, set_getD h, if_pos rfl, if_pos rfl] at h1
    exact h1
theorem grow1_len (so : List Nat) (c : Nat) (p : List Int) : (grow1 so c p).length ≤ 2 := by
  unfold grow1 ysOf
  rw [List.length_map]
  exact Nat.le_trans (List.length_filter_le _ _) (Nat.le_refl 2)
theorem growN_len (so : List Nat) (c : Nat) : ∀ ps : List (List Int), (growN so c ps).length ≤ 2 * ps.length
  | [] => Nat.le_refl _
  | p :: r => by
    show (grow1 so c p ++ growN so c r).length ≤ 2 * (r.length + 1)
    rw [List.length_append]
    have h1 := grow1_len so c p
    have h2 := growN_len so c r
    omega
theorem grow_ok {wb : Web} {ns so : List Nat} {k c : Nat} {ps : List (List Int)} (o : OrdOK wb ns) (wf : WebForm wb) (hk : 1 ≤ k) (hc : ns[k]? = some c) (hso : ∀ u, u ∈ so ↔ Adj wb.2 c u ∧ u ∈ ns.take k) (a : AllP wb ns k ps) : AllP wb ns (k + 1) (growN so c ps) := by
  obtain ⟨hc0, u0, hu0, ha0⟩ := o.back k c hk hc
  have hcn : c < wb.1 := List.mem_range.mp (o.pm.mem_iff.mp (List.mem_of_getElem? hc))
  have hct : c ∉ ns.take k := fun h => by
    obtain ⟨j, hj, e⟩ := take_get h
    have := nd_get o.nd e hc
    omega
  have tk := take_more hc
  have h0so : so.getD 0 0 ∈ so := by
    have : u0 ∈ so := (hso u0).mpr ⟨ha0.symm, hu0⟩
    cases so with
    | nil => cases this
    | cons x r => exact List.mem_cons_self
  have z0 : (0 : Nat) ∈ ns.take k := get_mem_take o.first (by omega)
  have hmem : ∀ q, q ∈ growN so c ps ↔ PLay wb ns (k + 1) q := by
    intro q
    unfold growN
    rw [List.mem_flatMap]
    constructor
    · rintro ⟨p, hp, hq⟩
      have P := (a.mem p).mp hp
      obtain ⟨y, hy, hall, rfl⟩ := mem_grow1.mp hq
      have gs : ∀ v, (p.set c y).getD v 0 = if c = v then y else p.getD v 0 := fun v => set_getD (by rw [P.len]; exact hcn)
      refine ⟨by rw [List.length_set]; exact P.len, by rw [gs, if_neg hc0]; exact P.zero, fun u v hu hv hadj => ?_, fun v hv => ?_⟩
      · rw [tk, List.mem_append, List.mem_singleton] at hu hv
        rw [gs, gs]
        have hne := (wf.adj hadj).2.2
        rcases hu with hu | hu <;> rcases hv with hv | hv
        · rw [if_neg (fun z => hct (by rw [z]; exact hu)), if_neg (fun z => hct (by rw [z]; exact hv))]
          exact P.adj u v hu hv hadj
        · subst hv
          rw [if_neg (fun z => hct (by rw [z]; exact hu)), if_pos rfl]
          exact hall u ((hso u).mpr ⟨hadj.symm, hu⟩)
        · subst hu
          rw [if_pos rfl, if_neg (fun z => hct (by rw [z]; exact hv))]
          exact (hall v ((hso v).mpr ⟨hadj, hv⟩)).symm
        · rw [hu, hv] at hne
          exact absurd rfl hne
      · rw [tk, List.mem_append, List.mem_singleton] at hv
        rw [gs, if_neg (fun z => hv (.inr z.symm))]
        exact P.out v fun z => hv (.inl z)
    · intro P
      have hl := P.len
      have gs : ∀ v, (q.set c 0).getD v 0 = if c = v then 0 else q.getD v 0 := fun v => set_getD (by rw [hl]; exact hcn)
      have gin : ∀ v, v ∈ ns.take k → (q.set c 0).getD v 0 = q.getD v 0 := fun v hv => by rw [gs, if_neg (fun z => hct (by rw [z]; exact hv))]
      have up : ∀ v, v ∈ ns.take k → v ∈ ns.take (k + 1) := fun v hv => by rw [tk]; exact List.mem_append_left _ hv
      have cin : c ∈ ns.take (k + 1) := by rw [tk]; exact List.mem_append_right _ (List.mem_singleton.mpr rfl)
      have hall : ∀ u ∈ so, (q.set c 0).getD u 0 - q.getD c 0 = 1 ∨ q.getD c 0 - (q.set c 0).getD u 0 = 1 := fun u hu => by
        obtain ⟨h1, h2⟩ := (hso u).mp hu
        rw [gin u h2]
        exact P.adj u c (up u h2) cin h1.symm
      refine ⟨q.set c 0, (a.mem _).mpr ⟨by rw [List.length_set]; exact hl, by rw [gin 0 z0]; exact P.zero, fun u v hu hv hadj => ?_, fun v hv => ?_⟩, mem_grow1.mpr ⟨q.getD c 0, ?_, hall, ?_⟩⟩
      · rw [gin u hu, gin v hv]
        exact P.adj u v (up u hu) (up v hv) hadj
      · rw [gs]
        by_cases z : c = v
        · rw [if_pos z]
        · rw [if_neg z]
          refine P.out v fun h => ?_
          rw [tk, List.mem_append, List.mem_singleton] at h
          rcases h with h | h
          · exact hv h
          · exact z h.symm
      · have := hall _ h0so
        omega
      · rw [List.set_set]
        refine List.ext_getElem? fun i => ?_
        rw [List.getElem?_set]
        split
        · rename_i e
          subst e
          rw [if_pos (by rw [hl]; exact hcn)]
          exact get_getD 0 (by rw [hl]; exact hcn)
        · rfl
  refine ⟨?_, hmem, ?_⟩
  · unfold growN
    refine nodup_flat a.nd (fun p hp => grow1_nd ?_) fun p hp p' hp' q hq hq' => ?_
    · rw [((a.mem p).mp hp).len]; exact hcn
    · have P := (a.mem p).mp hp
      have P' := (a.mem p').mp hp'
      obtain ⟨y, _, _, e1⟩ := mem_grow1.mp hq
      obtain ⟨y', _, _, e2⟩ := mem_grow1.mp hq'
      refine List.ext_getElem? fun i => ?_
      by_cases hi : i < wb.1
      · rw [get_getD (l := p) (i := i) 0 (by rw [P.len]; exact hi), get_getD (l := p') (i := i) 0 (by rw [P'.len]; exact hi)]
        congr 1
        by_cases z : c = i
        · subst z
          rw [P.out c hct, P'.out c hct]
        · have h1 : q.getD i 0 = p.getD i 0 := by rw [e1, set_getD (by rw [P.len]; exact hcn), if_neg z]
          have h2 : q.getD i 0 = p'.getD i 0 := by rw [e2, set_getD (by rw [P'.len]; exact hcn), if_neg z]
          rw [← h1, h2]
      · rw [List.getElem?_eq_none (by rw [P.len]; omega), List.getElem?_eq_none (by rw [P'.len]; omega)]
  · have h1 := growN_len so c ps
    have h2 := a.len
    have h3 : 2 ^ (k + 1 - 1) = 2 * 2 ^ (k - 1) := by
      rw [show k + 1 - 1 = (k - 1) + 1 by omega, Nat.pow_succ]
      omega
    omega
theorem start_all {wb : Web} {ns : List Nat} (wf : WebForm wb) (o : OrdOK wb ns) : AllP wb ns 1 [List.replicate wb.1 0] := by
  have tk : ns.take 1 = [0] := by
    have := take_more o.first
    rw [this]; rfl
  have g0 : ∀ v, (List.replicate wb.1 (0 : Int)).getD v 0 = 0 := fun v => by
    rw [List.getD_eq_getElem?_getD, List.getElem?_replicate]
    split <;> rfl
  refine ⟨List.nodup_cons.mpr ⟨by simp, List.nodup_nil⟩, fun p => ?_, Nat.le_refl _⟩
  rw [List.mem_singleton]
  constructor
  · rintro rfl
    refine ⟨List.length_replicate, g0 0, fun u v hu hv ha => ?_, fun v _ => g0 v⟩
    rw [tk, List.mem_singleton] at hu hv
    exact absurd (hu.trans hv.symm) (wf.adj ha).2.2
  · intro P
    refine List.ext_getElem? fun i => ?_
    rw [List.getElem?_replicate]
    split
    · rename_i hi
      rw [get_getD (l := p) (i := i) 0 (by rw [P.len]; exact hi)]
      congr 1
      by_cases z : i = 0
      · rw [z]; exact P.zero
      · exact P.out i (by rw [tk, List.mem_singleton]; exact z)
    · rename_i hi
      exact List.getElem?_eq_none (by rw [P.len]; omega)
theorem all_lays {wb : Web} {ns : List Nat} {ps L : List (List Int)} (o : OrdOK wb ns) (wf : WebForm wb) (a : AllP wb ns wb.1 ps) (pm : L.Perm ps) : AllLays wb L := by
  have tk : ns.take wb.1 = ns := by rw [← o.len, List.take_length]
  have hin : ∀ v, v < wb.1 → v ∈ ns := fun v h => o.pm.mem_iff.mpr (List.mem_range.mpr h)
  refine ⟨pm.nodup_iff.mpr a.nd, fun l => ?_⟩
  rw [pm.mem_iff, a.mem]
  constructor
  · intro P
    refine ⟨⟨P.len, fun u v h => ?_⟩, P.zero⟩
    obtain ⟨h1, h2, _⟩ := wf.adj h
    exact P.adj u v (by rw [tk]; exact hin u h1) (by rw [tk]; exact hin v h2) h
  · rintro ⟨⟨h1, h2⟩, h3⟩
    refine ⟨h1, h3, fun u v _ _ h => h2 u v h, fun v hv => ?_⟩
    rw [tk] at hv
    have : ¬ v < wb.1 := fun z => hv (hin v z)
    rw [List.getD_eq_getElem?_getD, List.getElem?_eq_none (by omega)]
    rfl
end Tr
namespace Tr
open PySem PySem.Spec PyProof.Rows L2 Evl RZ
/-! ### a part of a laying as a dict -/
def kvF (fs : List Nat) (p : List Int) : List (Key × V) := fs.map fun (f : Nat) => ((.inl (f : Int) : Key), V.int (p.getD f 0))
def rD (fs : List Nat) : Rp (List Int) := fun H v p => ∃ a, v = .ref a ∧ H a = some (.dK (kvF fs p))
instance {fs : List Nat} : Mono (rD fs) := ⟨fun {H H' v x} e h => by
  obtain ⟨a, rfl, h⟩ := h
  exact ⟨a, rfl, e _ _ h⟩⟩
theorem valV_kvF (p : List Int) (f : Nat) : ∀ fs : List Nat, valV (kvF fs p) (.inl (f : Int)) = if f ∈ fs then some (.int (p.getD f 0)) else none
  | [] => by rw [if_neg List.not_mem_nil]; rfl
  | g :: fs => by
    show valV (((.inl (g : Int) : Key), V.int (p.getD g 0)) :: kvF fs p) _ = _
    by_cases c : g = f
    · subst c
      rw [valV_pos rfl, if_pos List.mem_cons_self]
    · rw [valV_neg (fun z => c (by have := Sum.inl.inj z; omega)), valV_kvF p f fs]
      by_cases h : f ∈ fs
      · rw [if_pos h, if_pos (List.mem_cons_of_mem _ h)]
      · rw [if_neg h, if_neg (fun z => (List.mem_cons.mp z).elim (fun q => c q.symm) h)]
theorem put_kvF {fs : List Nat} {p : List Int} {c : Nat} {y : Int} (hc : c ∉ fs) (hl : c < p.length) : putK (kvF fs p) (.inl (c : Int)) (.int y) = kvF (fs ++ [c]) (p.set c y) := by
  rw [putK_new _ (by rw [valV_kvF, if_neg hc])]
  unfold kvF
  rw [List.map_append]
  congr 1
  · refine List.map_congr_left fun f hf => ?_
    rw [set_getD hl, if_neg (fun z => hc (by rw [z]; exact hf))]
  · show [((.inl (c : Int) : Key), V.int y)] = [((.inl (c : Int) : Key), V.int ((p.set c y).getD c 0))]
    rw [set_getD hl, if_pos rfl]
section
variable {K : PySem.W.Frag} {σ : L2.St} {F F' H G H2 : Hp} {ta tb tc te tx tl td ty : TE} {t u : TT} {T U W : Type} {R : Rp T} {S : Rp U} {P : T → Prop} {D : Ends} {g : TG} {ts u2 : TS}
theorem ev_dgetF {fs : List Nat} {p : List Int} {f : Nat} (h : EvR (rD fs) td σ F p) (hy : Ev ty σ F (.int (f : Int))) (hf : f ∈ fs) : Ev (tDGet td ty) σ F (.int (p.getD f 0)) := fun H e Q q => h H e _ fun x v G H2 px g r => by
  subst px
  obtain ⟨a, rfl, r⟩ := r
  refine hy H2 (e.trans g.act) _ fun H3 e3 => ⟨a, _, rfl, ?_, q H3 (g.act.trans e3)⟩
  have := DGet.k (k := .inl (f : Int)) (e3 _ _ (g.sub _ _ r))
  rw [valV_kvF, if_pos hf] at this
  exact this
theorem et_dinF {fs : List Nat} {p : List Int} {f : Nat} (h : EvR (rD fs) td σ F p) (hy : Ev ty σ F (.int (f : Int))) : EvT (tB (tDIn ty td)) σ F (decide (f ∈ fs)) := fun H e Q q => hy H e _ fun H2 e2 => h H2 (e.trans e2) _ fun x v G H3 px g r => by
  subst px
  obtain ⟨a, rfl, r⟩ := r
  have := DGet.k (k := .inl (f : Int)) (g.sub _ _ r)
  rw [valV_kvF] at this
  refine ⟨a, _, rfl, this, decide (f ∈ fs), ?_, q H3 (e2.trans g.act)⟩
  by_cases c : f ∈ fs
  · rw [if_pos c, decide_eq_true c]; rfl
  · rw [if_neg c, decide_eq_false c]; rfl
/-- {f: h} -/
theorem p_disp1 {Q : VK} {f : Nat} {y : Int} (ha : Ev ta σ H (.int (f : Int))) (hb : Ev tb σ H (.int y)) (q : ∀ p H2, H p = none → Ex H H2 → H2 p = some (.dK [((.inl (f : Int) : Key), V.int y)]) → Q (.ref p) H2) : tDisp [(ta, tb)] σ H Q := fun p np =>
  ha (upd H p (.dK [])) (Ex.new np) _ fun H1 e1 => hb H1 ((Ex.new np).trans e1) _ fun H2 e2 =>
    ⟨(e1.trans e2) _ _ upd_same, [((.inl (f : Int) : Key), V.int y)], rfl, by show 1 ≤ 15; decide, q p _ np (Ex.mut ((Ex.new np).trans (e1.trans e2)) np) upd_same⟩
end
end Tr
namespace Tr
open PySem PySem.Spec PyProof.Rows L2 Evl RZ LamX
/-! ### readings that outlast a new code object -/
class MonoN {T : Type} (R : Rp T) : Prop where
  go : ∀ {H H' : Hp} {v : V} {x : T}, ExtN H H' → R H v x → R H' v x
section
variable {K : PySem.W.Frag} {T U : Type} {R : Rp T} {S : Rp U}
theorem sqt_extN {H H' : Hp} {p : Addr} {xs : List V} (e : ExtN H H') (h : SqT K H p xs) : SqT K H' p xs := by
  rcases h with (h | ⟨o, h⟩) | h
  · exact .inl (.inl (e _ _ h fun _ z => nomatch z))
  · exact .inl (.inr ⟨o, e _ _ h fun _ z => nomatch z⟩)
  · exact .inr h
instance : MonoN rInt := ⟨fun _ h => h⟩
instance : MonoN rNat := ⟨fun _ h => h⟩
theorem seq_monoN [m : MonoN R] {H H' : Hp} {vs : List V} {xs : List T} (e : ExtN H H') (h : rSeq R H vs xs) : rSeq R H' vs xs := paired_mono (fun _ _ q => m.go e q) h
instance [m : MonoN R] : MonoN (rLst K R) := ⟨fun {H H' v x} e h => by
  obtain ⟨p, vs, rfl, hl, r⟩ := h
  exact ⟨p, vs, rfl, sql_extN e hl, seq_monoN e r⟩⟩
instance [m : MonoN R] : MonoN (rTup K R) := ⟨fun {H H' v x} e h => by
  obtain ⟨p, vs, rfl, hl, r⟩ := h
  exact ⟨p, vs, rfl, sqt_extN e hl, seq_monoN e r⟩⟩
instance [m : MonoN R] [n : MonoN S] : MonoN (rPr K R S) := ⟨fun {H H' v x} e h => by
  obtain ⟨p, a, b, rfl, hl, r, s⟩ := h
  exact ⟨p, a, b, rfl, sqt_extN e hl, m.go e r, n.go e s⟩⟩
instance : MonoN (rEdge K) := inferInstanceAs (MonoN (rPr K rNat rNat))
instance : MonoN (rWeb K) := inferInstanceAs (MonoN (rPr K rNat (rTup K (rEdge K))))
instance {fs : List Nat} : MonoN (rD fs) := ⟨fun {H H' v x} e h => by
  obtain ⟨a, rfl, h⟩ := h
  exact ⟨a, rfl, e _ _ h fun _ z => nomatch z⟩⟩
end
end Tr
namespace Tr
open PySem PySem.Spec PyProof.Rows L2 Evl RZ
section
variable {P : Program} {w : World} {K : PySem.W.Frag} {mg : Str → Option Value} {base : Heap}
/-- a def whose code object is known -/
structure DefC (K : PySem.W.Frag) (mg : Str → Option Value) (x : Str) (st : Stmt) (ps : List Str) (c : Addr) : Prop where
  ex : ∃ (f : Addr) (oc : Value) (od : Option Addr) (kV doc pm : Value) (an : Option Addr) (ct : Value) (osl : Array (Option Value)),
    K.lookup f = some ⟨oc, od, .func (PySem.W.fnOf x x (defArgs st) (defBody st) (defScope st) .none kV doc pm an (.ref c) ct), osl⟩ ∧ PySem.W.codeIn K (.ref c) x = true ∧ PySem.W.keepIn K (.ref f) = true ∧ mg x = some (.ref f) ∧ Binds K (PySem.W.fnOf x x (defArgs st) (defBody st) (defScope st) .none kV doc pm an (.ref c) ct) ps []
theorem DefC.cal {x : Str} {st : Stmt} {N ps : List Str} {k : Nat} {sp : Sp} {c : Addr} (F : DefC K mg x st ps c) (S : FnScope N ps (defScope st)) (len : ∀ vs H Q E, sp vs H Q E → vs.length = ps.length)
    (hbody : ∀ (f : Addr) (A : Around) (outer : List Env) (s : Shared) (H : Hp) (vs : List V) (Q : VK) (E : XK), Room k (A.deeper (envOfC x (defScope st) s.heap.objs.size f (.ref c))) → sp vs H Q E →
      ∃ t, PSs (cxOf L2.CX0 P w K mg base N x (defScope st) f (.ref c) A outer s H E).nox (defBody st) t ∧ t { nx := fun _ H' => Q .non H', rt := Q } (start N vs) H) : Cal P w K mg base (k + 1) x sp := by
  obtain ⟨f, oc, od, kV, doc, pm, an, ct, osl, lk, hcd, hk, g, b⟩ := F.ex
  refine ⟨f, _, ps, fn_of lk hcd S len fun A outer s H vs Q E hr hsp => ?_, g, hk, b⟩
  obtain ⟨t, h, q⟩ := hbody f A outer s H vs Q E hr hsp
  exact ⟨t, h.nox, q⟩
def lamT (PT : Addr) : List (Addr × Str) := [(PT, "_law_all.<locals>.<lambda>")]
theorem lamT_mem (PT : Addr) : (PT, ("_law_all.<locals>.<lambda>" : Str)) ∈ lamT PT := List.mem_singleton.mpr rfl
theorem lamT_one (PT : Addr) : ∀ p ∈ lamT PT, p.1 = PT → p.2 = ("_law_all.<locals>.<lambda>" : Str) := fun p h _ => by rw [List.mem_singleton.mp h]
theorem filt_more {T : Type} {f : T → Bool} {xs : List T} {m : Nat} {y : T} (h : xs[m]? = some y) : (xs.take (m + 1)).filter f = (xs.take m).filter f ++ (if f y = true then [y] else []) := by
  rw [List.take_add_one, h, List.filter_append]
  congr 1
  show [y].filter f = _
  by_cases c : f y = true
  · rw [if_pos c, List.filter_cons_of_pos c]; rfl
  · rw [if_neg c, List.filter_cons_of_neg c]; rfl
theorem ev_abs {σ : L2.St} {F : Hp} {te : TE} {d : Int} (h : Ev te σ F (.int d)) : Ev (tCB (fun xs H Q => ∃ i, xs = [V.int i] ∧ Q (V.int (if i < 0 then -i else i)) H) (tCons te tNil)) σ F (.int (if d < 0 then -d else d)) := fun H e Q q => p_cb (p_cons (h H e _ fun H2 e2 => p_nil ⟨d, rfl, q H2 e2⟩))
theorem tups_of {K : PySem.W.Frag} {H : Hp} : ∀ {vs : List V} {ts : List (List Int)}, rSeq (rTup K rInt) H vs ts → Paired (TupIs K id H) vs ts
  | _, _, .nil => .nil
  | _, _, .cons h t => .cons (by
    obtain ⟨p, us, rfl, h1, h2⟩ := h
    have := ints_of h2
    subst this
    exact ⟨p, rfl, h1⟩) (tups_of t)
def spAll (K : PySem.W.Frag) (PT : Addr) : Sp := fun vs H Q _ => ∃ (v : V) (wb : Web), vs = [v, .int 0, .int 0] ∧ rWeb K H v wb ∧ WebOK wb ∧ LamX.Tabs (lamT PT) H ∧
  ∀ (L : List (List Int)) x H2, AllLays wb L → L.length ≤ 256 → LamX.ExtN H H2 → rLst K (rTup K rInt) H2 x L → Q x H2
theorem p_sortK {T : List (Addr × Str)} {te : TE} {ia : Nat} {σ : L2.St} {H : Hp} {Q : VK} (h : te σ H fun v H1 => ∃ (n : Nat) (pa : Addr) (ds : List Int), v = .int (n : Int) ∧ n ≤ 1000 ∧ σ[ia]? = some (some (.ref pa)) ∧ SqL K H1 pa (ds.map V.int) ∧ ds.length = n ∧ LamX.Tabs T H1 ∧
  ∀ (H2 : Hp) (D : Addr) (ns : List Nat), LamX.ExtN H1 H2 → H2 D = none → ns.Perm (List.range n) → ns.Pairwise (KeyLe ds) → Q (.ref D) (upd H2 D (.lst (ns.map nV)))) : tSortKey K T te ia σ H Q := h
theorem sc_law_all : FnScope ["_law_web_here", "_law_field", "_law_height", "_law_nears_here", "_law_order", "_law_found", "_law_away", "_law_here", "_law_longer", "_law_told", "_law_some", "_law_value", "_law_more", "_law_one", "_law_near"] ["_law_web_here", "_law_field", "_law_height"] (defScope (top 44)) := ⟨rfl, rfl, rfl, by decide +kernel, rfl, by decide +kernel, by decide +kernel⟩
theorem c_law_all {c PT : Addr} (D : DefC K mg "_law_all" (top 44) ["_law_web_here", "_law_field", "_law_height"] c) (B : Bi mg) (TB : LamX.TabB base mg c PT) (c_law_nears : Cal P w K mg base 1 "_law_nears" (spNears K)) (c_law_far : Cal P w K mg base 2 "_law_far" (spReach K)) : Cal P w K mg base 3 "_law_all" (spAll K PT) := by
  refine D.cal sc_law_all (fun vs H Q E h => ?_) (fun fa A outer s H vs Q E hr h => ?_)
  · obtain ⟨v, wb, rfl, _⟩ := h
    rfl
  · obtain ⟨v, wb, rfl, hv, ok, hT, q⟩ := h
    refine ⟨_, (pss_cons (ps_par3 (i := 3) (j := 4) (l := 5) rfl sc_law_all.nd rfl rfl rfl (by decide) (by decide) (by decide) rfl rfl rfl (pa_cons (pe_k c_law_nears hr (by decide) (by rfl) (pa_cons (pv 0) pa_nil)) (pa_cons (pe_lst (pa_cons (pv 1) pa_nil)) (pa_cons (pe_lst (pa_cons (pe_disp (pps_cons (pv 1) (pv 2) pps_nil) (by rfl) (by rfl) (fun z => by cases z) (by decide)) pa_nil)) pa_nil))) (by rfl))
      (pss_cons (ps_set (i := 6) sc_law_all.nd rfl (.inr rfl) (pe_k c_law_far hr (by decide) (by rfl) (pa_cons (pv 0) (pa_cons (pv 1) pa_nil))))
      (pss_cons (ps_set (i := 4) sc_law_all.nd rfl (.inl rfl) (pe_sortKey (K := K) (T := lamT PT) (c := c) (P := PT) (ia := 6) (j := 2) rfl (by rfl) B.sorted (by rfl) B.range (pe_ix (ix_tup' K) (pv 0) pe_int (fun _ _ => rfl)) rfl rfl rfl rfl rfl rfl (by decide) TB rfl (lamT_mem _) (lamT_one _) hr rfl (fun _ _ _ _ _ _ => rfl)))
      (pss_cons (ps_for PassesOwn.never rfl (pi_list' K (pe_slice (sl_list' K) (pv 4) (po_some pe_int) po_none)) (pg_name (i := 7) sc_law_all.nd rfl (.inl rfl))
       ((pss_cons (ps_set (i := 8) sc_law_all.nd rfl (.inl rfl) (pe_lst pa_nil))
       (pss_cons (ps_for PassesOwn.never rfl (pi_list' K (pv 5)) (pg_name (i := 9) sc_law_all.nd rfl (.inr rfl))
        ((pss_cons (ps_setLc (i := 10) (own := [("_law_near", 14)]) rfl sc_law_all.nd rfl rfl (sw_true rfl rfl rfl (by decide +kernel)) (pi_list' K (pe_ix (ix_list' K) (pv 3) (pv 7) (fun _ _ => rfl))) (blkOk_by (N := ["_law_web_here", "_law_field", "_law_height", "_law_nears_here", "_law_order", "_law_found", "_law_away", "_law_here", "_law_longer", "_law_told", "_law_some", "_law_value", "_law_more", "_law_one", "_law_near"]) (sc := defScope (top 44)) (by decide +kernel)) (fun _ _ _ _ _ => (pg_name (i := 14) sc_law_all.nd rfl (.inl rfl))) (fun _ _ _ _ _ => (pts_one (pt_cmp (pc_din (hu1 hr) (pv 14) (pv 9))))) (fun _ _ _ _ _ => (pv 14)))
        (pss_one (ps_for PassesOwn.never rfl (pi_list' K (pe_lst (pa_cons (pe_op op_sub (pe_dget (hu1 hr) (pv 9) (pe_ix (ix_list' K) (pv 10) pe_int (fun _ _ => rfl)) (fun _ _ => rfl)) pe_int) (pa_cons (pe_op op_add (pe_dget (hu1 hr) (pv 9) (pe_ix (ix_list' K) (pv 10) pe_int (fun _ _ => rfl)) (fun _ _ => rfl)) pe_int) pa_nil)))) (pg_name (i := 11) sc_law_all.nd rfl (.inr rfl))
         ((pss_one (ps_if (pt_cmpR (op_eqD' K hr.units) (pe_lc (own := [("_law_near", 14)]) rfl sc_law_all.nd (pi_list' K (pv 10)) (blkOk_by (N := ["_law_web_here", "_law_field", "_law_height", "_law_nears_here", "_law_order", "_law_found", "_law_away", "_law_here", "_law_longer", "_law_told", "_law_some", "_law_value", "_law_more", "_law_one", "_law_near"]) (sc := defScope (top 44)) (by decide +kernel)) (fun _ _ _ _ _ => (pg_name (i := 14) sc_law_all.nd rfl (.inl rfl))) (fun _ _ _ _ _ => (pts_one (pt_cmpR op_ne (pe_callB call_abs (by rfl) B.abs (by decide +kernel) (pa_cons (pe_op op_sub (pe_dget (hu1 hr) (pv 9) (pv 14) (fun _ _ => rfl)) (pv 11)) pa_nil)) pe_int (nomark _)))) (fun _ _ _ _ _ => (pv 14))) (pe_lst pa_nil) (nomark _))
          ((pss_cons (ps_set (i := 12) sc_law_all.nd rfl (.inl rfl) (pe_callTy call_dictD (by rfl) B.dict_ (by decide +kernel) (pa_cons (pv 9) pa_nil)))
          (pss_cons (ps_dput (hu1 hr) (pv 12) (pv 7) (pv 11) rfl)
          (pss_one (ps_expr (pe_bm' K PySem.F.plainAttrs_list PySem.F.slot_list_append PySem.F.type_list_append mt_append (pv 8) (pa_cons (pv 12) pa_nil)))))))
          (pss_nil)))))))))
       (pss_one (ps_set (i := 5) sc_law_all.nd rfl (.inl rfl) (pv 8)))))))
      (pss_one (ps_ret (pe_callB (cr_sortedTs K hr) (by rfl) B.sorted (by decide +kernel) (pa_cons (pe_lc (own := [("_law_told", 9)]) rfl sc_law_all.nd (pi_list' K (pv 5)) (blkOk_by (N := ["_law_web_here", "_law_field", "_law_height", "_law_nears_here", "_law_order", "_law_found", "_law_away", "_law_here", "_law_longer", "_law_told", "_law_some", "_law_value", "_law_more", "_law_one", "_law_near"]) (sc := defScope (top 44)) (by decide +kernel)) (fun _ _ _ _ _ => (pg_name (i := 9) sc_law_all.nd rfl (.inr rfl))) (fun _ _ _ _ _ => pts_nil) (fun _ _ _ _ _ => (pe_callTy (call_tuple' K) (by rfl) B.tuple_ (by decide +kernel) (pa_cons (pe_lc (own := [("_law_one", 13)]) rfl sc_law_all.nd (pi_range1 (by rfl) B.range (pa_cons (pe_ix (ix_tup' K) (pv 0) pe_int (fun _ _ => rfl)) pa_nil)) (blkOk_by (N := ["_law_web_here", "_law_field", "_law_height", "_law_nears_here", "_law_order", "_law_found", "_law_away", "_law_here", "_law_longer", "_law_told", "_law_some", "_law_value", "_law_more", "_law_one", "_law_near"]) (sc := relS { kind := .function, names := [(".0", .local), ("_law_told", .cell), ("tuple", .globalImplicit), ("range", .globalImplicit), ("_law_web_here", .free)], isGenerator := false, isCoroutine := false } (defScope (top 44))) (by decide +kernel)) (fun _ _ _ _ _ => (pg_name (i := 13) sc_law_all.nd rfl (.inl rfl))) (fun _ _ _ _ _ => pts_nil) (fun _ _ _ _ _ => (pe_dget (hu1 hr) (pv 9) (pv 13) (fun _ _ => rfl)))) pa_nil)))) pa_nil)))))))), ?_⟩
    have hn9 := ok.nine
    have hn1 := ok.form.lo
    refine q_par3 (p_cons (p_call (p_cons (p_var rfl (p_nil ⟨H, v, wb, rfl, Ex.refl H, hv, ok.form, fun nr x G1 H1 hns g1 rx => ?_⟩)))))
    refine p_cons (p_lst (p_cons (p_var rfl (p_nil ⟨by show 1 ≤ sizeLine; decide, fun po npo => p_cons (p_lst (p_cons (p_disp1 (f := 0) (y := 0) (ev_var rfl) (ev_var rfl) fun pd H3 npd x3 hpd => p_nil ⟨by show 1 ≤ sizeLine; decide, fun pf npf => p_nil ⟨_, _, _, rfl, ?_⟩⟩)))⟩))))
    have xA : Ex H (upd H3 pf (.lst [.ref pd])) := (g1.act.trans (Ex.new npo)).trans (x3.trans (Ex.new npf))
    have rx4 : rLst K (rLst K rNat) (upd H3 pf (.lst [.ref pd])) x nr := Mono.mono (g1.sub.trans ((Ex.new npo).trans (x3.trans (Ex.new npf)))) rx
    have rf4 : rLst K (rD [0]) (upd H3 pf (.lst [.ref pd])) (.ref pf) [List.replicate wb.1 0] := ⟨pf, [.ref pd], rfl, SqL.of upd_same, .cons ⟨pd, rfl, by
      have e0 : kvF [0] (List.replicate wb.1 0) = [((.inl (0 : Int) : Key), V.int 0)] := by
        show [((.inl (0 : Int) : Key), V.int ((List.replicate wb.1 (0 : Int)).getD 0 0))] = _
        rw [List.getD_eq_getElem?_getD, List.getElem?_replicate]
        split <;> rfl
      rw [e0]
      exact Ex.new npf _ _ hpd⟩ .nil⟩
    generalize (upd H3 pf (.lst [.ref pd])) = H4 at xA rx4 rf4 ⊢
    have hv4 : rWeb K H4 v wb := Mono.mono xA hv
    have hT4 : LamX.Tabs (lamT PT) H4 := hT.ext xA
    refine q_raw (p_call (p_cons (p_var rfl (p_cons (p_var rfl (p_nil ⟨H4, v, wb, 0, rfl, Ex.refl H4, hv4, ok.form, ok.conn, by omega, fun ds xa G5 H5 A g5 ra => ?_⟩))))))
    obtain ⟨pa, vsa, rfl, hla, rsa⟩ := ra
    have evs := nats_of rsa
    subst evs
    have x5 := g5.act
    refine q_raw (p_sortK ((ev_nat (web0 (Ex.refl H5) (Mono.mono x5 hv4) rfl)) H5 (Ex.refl H5) _ fun H6 x6 => ⟨wb.1, pa, ds.map (fun (d : Nat) => (d : Int)), rfl, by omega, rfl, ?_, by rw [List.length_map]; exact A.len, (hT4.ext x5).ext x6, fun H7 Dp ns xN nD pm up => ?_⟩))
    · rw [List.map_map]
      exact ex_l (g5.sub.trans x6) hla
    have oo := ord_of A ok.form pm up
    have xN4 : LamX.ExtN H4 (upd H7 Dp (.lst (ns.map nV))) := ((LamX.ExtN.of (x5.trans x6)).trans xN).trans (LamX.ExtN.of (Ex.new nD))
    have xN0 : LamX.ExtN H (upd H7 Dp (.lst (ns.map nV))) := (LamX.ExtN.of xA).trans xN4
    have rx8 := MonoN.go xN4 rx4
    have rf8 := MonoN.go xN4 rf4
    have hv8 := MonoN.go xN4 hv4
    have ro8 : rLst K rNat (upd H7 Dp (.lst (ns.map nV))) (.ref Dp) ns := rnat_list (SqL.of upd_same)
    generalize (upd H7 Dp (.lst (ns.map nV))) = H8 at xN0 rx8 rf8 hv8 ro8 ⊢
    have tk1 : ns.take 1 = [0] := by
      have := take_more oo.first
      rw [this]; rfl
    have hlen := oo.len
    refine q_for_lst (K := K) (R := rNat) (F := H8) (xs := ns.drop 1) (EvN.toR (K := K) (evn_drop1L (evr_var rfl ro8))) (Ex.refl H8) (fun G i σ' H' => ∃ (y7 y8 y9 y10 y11 y12 y13 y14 : Option V) (fv : V) (ps : List (List Int)), σ' = [some v, some (.int 0), some (.int 0), some x, some (.ref Dp), some fv, some (.ref pa), y7, y8, y9, y10, y11, y12, y13, y14] ∧ Ex G H' ∧ Ex H8 G ∧ rLst K (rD (ns.take (i + 1))) H' fv ps ∧ AllP wb ns (i + 1) ps)
      (fun G i σ' H' ⟨_, _, _, _, _, _, _, _, _, _, _, e, _⟩ => e)
      (fun G H9 g9 => ⟨_, _, _, _, _, _, _, _, .ref pf, [List.replicate wb.1 0], rfl, g9.sub, g9.fz, by rw [tk1]; exact Mono.mono g9.act rf8, start_all ok.form oo⟩)
      (fun G i cc vc σ' H' eF hcc rc ⟨y7, y8, y9, y10, y11, y12, y13, y14, fv, ps, hσ, eG, e8, rps, ap⟩ => ?_) (fun G σ' H' eF ⟨y7, y8, y9, y10, y11, y12, y13, y14, fv, ps, hσ, eG, e8, rps, ap⟩ => ?_)
    · subst hσ
      cases (show vc = .int (cc : Int) from rc)
      have hc : ns[i + 1]? = some cc := by
        rw [List.getElem?_drop, Nat.add_comm] at hcc
        exact hcc
      refine g_name ?_
      have hcm : cc ∈ ns := List.mem_of_getElem? hc
      have hcn : cc < wb.1 := List.mem_range.mp (oo.pm.mem_iff.mp hcm)
      have hnc : nr[cc]? = some (nr.getD cc []) := get_getD [] (by rw [hns.len]; exact hcn)
      have hct : cc ∉ ns.take (i + 1) := fun h => by
        obtain ⟨j, hj, e⟩ := take_get h
        have := nd_get oo.nd e hc
        omega
      obtain ⟨so, hsoE⟩ : ∃ so : List Nat, so = (nr.getD cc []).filter fun u => decide (u ∈ ns.take (i + 1)) := ⟨_, rfl⟩
      have hso : ∀ u, u ∈ so ↔ Adj wb.2 cc u ∧ u ∈ ns.take (i + 1) := fun u => by
        rw [hsoE, List.mem_filter, hns.mem cc _ hnc u, decide_eq_true_eq]
      have hso0 : so.getD 0 0 ∈ so := by
        obtain ⟨_, u0, hu0, ha0⟩ := oo.back (i + 1) cc (by omega) hc
        have : u0 ∈ so := (hso u0).mpr ⟨ha0.symm, hu0⟩
        cases so with
        | nil => cases this
        | cons x r => exact List.mem_cons_self
      have hso1 : so[0]? = some (so.getD 0 0) := get_getD 0 (List.length_pos_of_mem hso0)
      have hsoz : so.length ≤ 2000 := by
        rw [hsoE]
        exact Nat.le_trans (List.length_filter_le _ _) (hns.sz cc _ hnc)
      have hpz : ps.length ≤ 256 := by
        have h1 := ap.len
        have h2 : i + 1 < ns.length := (List.getElem?_eq_some_iff.mp hc).1
        have h3 : 2 ^ (i + 1 - 1) ≤ 2 ^ 8 := Nat.pow_le_pow_right (by decide) (by omega)
        omega
      have rxE : rLst K (rLst K rNat) H' x nr := Mono.mono (e8.trans eG) rx8
      refine q_setN (R := rD (ns.take (i + 2))) (evn_nil (F := H')) (Ex.refl H') fun us0 pl ws G2 H2 hus g2 n1 n2 hpl rus0 => ?_
      subst hus
      cases rus0
      refine q_for_lstV (K := K) (R := rD (ns.take (i + 1))) (G := H') (v := fv) (xs := ps) (ev_var rfl) rps (fun j σ'' H'' => ∃ (z9 z10 z11 z12 z13 z14 : Option V) (G3 : Hp) (us : List V), σ'' = [some v, some (.int 0), some (.int 0), some x, some (.ref Dp), some fv, some (.ref pa), some (.int (cc : Int)), some (.ref pl), z9, z10, z11, z12, z13, z14] ∧ Grow H' H' G3 H'' ∧ G3 pl = none ∧ H'' pl = some (.lst us) ∧ rSeq (rD (ns.take (i + 2))) G3 us (growN so cc (ps.take j)))
        (fun j σ'' H'' ⟨_, _, _, _, _, _, _, _, _, g, _⟩ => g.act) g2.act
        (fun H3 x3 => ⟨_, _, _, _, _, _, G2, [], rfl, g2.ex x3, n1, x3 _ _ hpl, .nil⟩)
        (fun j p vp σ'' H'' hj rp ⟨z9, z10, z11, z12, z13, z14, G3, us, hσ, g3, n3, hpl3, rus⟩ => ?_) (fun σ'' H'' ⟨z9, z10, z11, z12, z13, z14, G3, us, hσ, g3, n3, hpl3, rus⟩ => ?_)
      · subst hσ
        refine g_name ?_
        have hpm : p ∈ ps := List.mem_of_getElem? hj
        have PP := (ap.mem p).mp hpm
        have rp3 : rD (ns.take (i + 1)) G3 vp p := Mono.mono g3.fz rp
        refine q_set (F := G3) (R := rLst K rNat) (P := fun ys => ys = so) ((EvN.toR (K := K) (evn_lcL (K := K) (R := rNat) (S := rNat) (F := G3) (PL := fun xs => xs = nr.getD cc []) (j := 14) (fun u => decide (u ∈ ns.take (i + 1))) (fun (u : Nat) y => y = u) (evr_ixL (evr_var rfl (Mono.mono g3.fz rxE)) (ev_var rfl) (atN hnc)) (fun xs h => by rw [h]; have := hns.sz cc _ hnc; omega) (fun _ => rfl) (fun xs u uv G4 _ _ e4 ru => et_dinF (evr_var rfl (Mono.mono e4 rp3)) (ev_nat (evr_var rfl ru))) fun xs u uv G4 _ _ _ e4 ru => evr_var rfl ru)).imp fun ys h => ?_) g3.sub fun so' sv G4 H4 hso' g4 rso => ?_
        · obtain ⟨xs, rfl, h⟩ := h
          have := made_map h
          rw [this, List.map_id', hsoE]
        subst hso'
        have hsoT : ∀ u ∈ so', u ∈ ns.take (i + 1) := fun u hu => ((hso u).mp hu).2
        have n4 : G4 pl = none := g4.gone n3 hpl3
        have gA := g3.trans g4
        have rp4 : rD (ns.take (i + 1)) G4 vp p := Mono.mono g4.fz rp3
        obtain ⟨b, hb⟩ : ∃ b : Int, b = p.getD (so'.getD 0 0) 0 := ⟨_, rfl⟩
        have hget : Ev (tDGet (tVar 9) (tOp (rIxL K) (tVar 10) (tC (.int 0)))) [some v, some (.int 0), some (.int 0), some x, some (.ref Dp), some fv, some (.ref pa), some (.int (cc : Int)), some (.ref pl), some vp, some sv, z11, z12, z13, none] G4 (.int b) := by
          rw [hb]
          exact ev_dgetF (evr_var rfl rp4) (ev_nat (evr_ixL (i := 0) (evr_var rfl rso) ev_c (atN (i := 0) hso1))) (hsoT _ hso0)
        refine s_for_lst (K := K) (R := rInt) (F := G4) (xs := [b - 1, b + 1]) (EvN.toR (K := K) (evn_two (ev_op hget ev_c rv_I0) (ev_op hget ev_c rv_I0))) g4.sub (fun G5 m σ3 H5 => ∃ (z11 z12 z13 z14 : Option V) (G6 : Hp) (us : List V), σ3 = [some v, some (.int 0), some (.int 0), some x, some (.ref Dp), some fv, some (.ref pa), some (.int (cc : Int)), some (.ref pl), some vp, some sv, z11, z12, z13, z14] ∧ Ex G5 G6 ∧ Grow H' H' G6 H5 ∧ G6 pl = none ∧ H5 pl = some (.lst us) ∧ rSeq (rD (ns.take (i + 2))) G6 us (growN so' cc (ps.take j) ++ (([b - 1, b + 1].take m).filter (okY so' p)).map fun y => p.set cc y))
          (fun G5 m σ3 H5 ⟨_, _, _, _, _, _, _, e5, g6, _⟩ => e5.trans g6.sub)
          (fun G5 H5 g5 => ⟨_, _, _, _, G5, us, rfl, Ex.refl G5, gA.trans g5, g5.gone n4 (g4.act _ _ hpl3), g5.act _ _ (g4.act _ _ hpl3), by
            show rSeq _ _ _ (_ ++ [])
            rw [List.append_nil]
            exact seq_mono (g4.fz.trans g5.fz) rus⟩)
          (fun G5 m y vy σ3 H5 e45 hy ry ⟨z11, z12, z13, z14, G6, us6, hσ, e56, g6, n6, hpl6, rus6⟩ => ?_) (fun G5 σ3 H5 e45 ⟨z11, z12, z13, z14, G6, us6, hσ, e56, g6, n6, hpl6, rus6⟩ => ?_)
        · subst hσ
          cases (show vy = .int y from ry)
          refine g_name ?_
          have rp6 : rD (ns.take (i + 1)) G6 vp p := Mono.mono (e45.trans e56) rp4
          have rso6 : rLst K rNat G6 sv so' := Mono.mono (e45.trans e56) rso
          have hlenU : us6.length ≤ 600 := by
            have h1 := seq_len rus6
            have h2 := growN_len so' cc (ps.take j)
            have h3 : (ps.take j).length ≤ ps.length := by rw [List.length_take]; omega
            have h4 : ((([b - 1, b + 1].take m).filter (okY so' p)).map fun y => p.set cc y).length ≤ 2 := by
              rw [List.length_map]
              refine Nat.le_trans (List.length_filter_le _ _) ?_
              rw [List.length_take]
              exact Nat.min_le_right _ _
            rw [List.length_append] at h1
            omega
          have hmore : rSeq (rD (ns.take (i + 2))) G6 us6 (growN so' cc (ps.take j) ++ (([b - 1, b + 1].take m).filter (okY so' p)).map fun y => p.set cc y) := rus6
          refine s_ifB (F := G6) (et_test (ev_eqNil (K := K) (R := rNat) (b := okY so' p y) (EvN.toR (K := K) (evn_lcL (K := K) (R := rNat) (S := rNat) (F := G6) (PL := fun xs => xs = so') (j := 14) (fun (u : Nat) => !decide (V.int (if p.getD u 0 - y < 0 then -(p.getD u 0 - y) else p.getD u 0 - y) = V.int 1)) (fun (u : Nat) z => z = u) (evr_var rfl rso6) (fun xs h => by rw [h]; omega) (fun _ => rfl) (fun xs u uv G7 hxs hu e7 ru => et_test (ev_op (ev_abs (ev_op (ev_dgetF (evr_var rfl (Mono.mono e7 rp6)) (ev_nat (evr_var rfl ru)) (hsoT u (by rw [← hxs]; exact hu))) (ev_var rfl) rv_I0)) ev_c (rv_ne rfl))) fun xs u uv G7 _ _ _ e7 ru => evr_var rfl ru)) fun zs hz => ?_)) g6.sub (fun hk H6 x6 => ?_) (fun hk H6 x6 => ?_)
          · obtain ⟨xs, rfl, h⟩ := hz
            have := made_map h
            rw [this, List.map_id', Bool.eq_iff_iff, List.isEmpty_iff, List.filter_eq_nil_iff]
            unfold okY
            rw [List.all_eq_true]
            refine ⟨fun h u hu => decide_eq_true ?_, fun h u hu => ?_⟩
            · have h1 := h u hu
              rw [Bool.not_eq_true', Bool.not_eq_false, decide_eq_true_eq] at h1
              have h2 := V.int.inj h1
              split at h2 <;> omega
            · have h1 := of_decide_eq_true (h u hu)
              rw [Bool.not_eq_true', Bool.not_eq_false, decide_eq_true_eq]
              congr 1
              split <;> omega
          · obtain ⟨ad, rfl, had⟩ := rp6
            refine q_raw (p_cb (p_cons (p_var rfl (p_nil ⟨ad, _, rfl, .inl (x6 _ _ (g6.sub _ _ had)), fun pm npm => ?_⟩))))
            have hle : (kvF (ns.take (i + 1)) p).length < sizeLine := by
              unfold kvF
              rw [List.length_map, List.length_take]
              exact Nat.lt_of_lt_of_le (m := 100) (by omega) (by decide)
            refine q_dput (p_var rfl (p_var rfl (p_var rfl ⟨pm, _, rfl, DPut.k (k := .inl (cc : Int)) upd_same hle, ?_⟩)))
            rw [put_kvF hct (by rw [PP.len]; exact hcn), ← take_more hc]
            have gB := (g6.ex x6).ex (Ex.new (o := .dK (kvF (ns.take (i + 1)) p)) npm)
            have nm := (g6.ex x6).free npm
            have hplB : (upd H6 pm (.dK (kvF (ns.take (i + 1)) p))) pl = some (.lst us6) := Ex.new npm _ _ (x6 _ _ hpl6)
            have npp : pm ≠ pl := ne_cell (x6 _ _ hpl6) npm
            have g7 := gB.wr (o := .dK (kvF (ns.take (i + 1 + 1)) (p.set cc y))) nm.2 nm.1
            have g8 := g7.put nm.1 upd_same
            have hpl7 := keep_upd (u := .dK (kvF (ns.take (i + 1 + 1)) (p.set cc y))) hplB npp
            have n7 : (upd G6 pm (.dK (kvF (ns.take (i + 1 + 1)) (p.set cc y)))) pl = none := by rw [upd_ne (fun z => npp z.symm)]; exact n6
            refine s_appendV (ws := us6) hpl7 (ev_var rfl) (ev_var rfl) (by omega) fun H8 x8 => ⟨_, _, _, _, _, us6 ++ [.ref pm], rfl, e56.trans (Ex.new nm.2), (g8.ex x8).wr n7 n2, n7, upd_same, ?_⟩
            rw [filt_more hy, hk]
            show rSeq _ _ _ (_ ++ List.map _ (_ ++ [y]))
            rw [List.map_append, ← List.append_assoc]
            exact seq_app ⟨pm, rfl, upd_same⟩ (seq_mono (Ex.new nm.2) hmore)
          · refine ⟨_, _, _, _, G6, us6, rfl, e56, g6.ex x6, n6, x6 _ _ hpl6, ?_⟩
            rw [filt_more hy, hk]
            show rSeq _ _ _ (_ ++ List.map _ (_ ++ []))
            rw [List.append_nil]
            exact hmore
        · subst hσ
          refine ⟨_, _, _, _, _, _, G6, us6, rfl, g6, n6, hpl6, ?_⟩
          have e1 : ps.take (j + 1) = ps.take j ++ [p] := by rw [List.take_add_one, hj]; rfl
          rw [e1]
          unfold growN at rus6 ⊢
          rw [List.flatMap_append]
          have e2 : [p].flatMap (grow1 so' cc) = grow1 so' cc p := by
            show grow1 so' cc p ++ [] = _
            rw [List.append_nil]
          rw [e2]
          unfold grow1 ysOf
          rw [← hb]
          exact rus6
      · subst hσ
        refine s_raw (p_var rfl ⟨_, _, _, _, _, _, _, _, .ref pl, growN so cc ps, rfl, eG.trans g3.act, e8, ?_, grow_ok oo ok.form (by omega) hc hso ap⟩)
        rw [List.take_length] at rus
        exact ⟨pl, us, rfl, SqL.of hpl3, seq_mono g3.sub rus⟩
    · subst hσ
      have hap : AllP wb ns wb.1 ps := by
        have e1 : (ns.drop 1).length + 1 = wb.1 := by rw [List.length_drop]; omega
        rw [← e1]; exact ap
      have hrp : rLst K (rD ns) H' fv ps := by
        have e1 : (ns.drop 1).length + 1 = ns.length := by rw [List.length_drop]; omega
        rw [e1, List.take_length] at rps
        exact rps
      have hl256 : ps.length ≤ 256 := by
        have h1 := hap.len
        have h2 : 2 ^ (wb.1 - 1) ≤ 2 ^ 8 := Nat.pow_le_pow_right (by decide) (by omega)
        omega
      have hvE : rWeb K H' v wb := Mono.mono (e8.trans eG) hv8
      refine s_retP (p_cb (p_cons ?_))
      refine (EvN.toR (K := K) (evn_lcL (K := K) (R := rD ns) (S := rTup K rInt) (F := H') (PL := fun xs => xs = ps) (j := 9) (fun _ => true) (fun (p : List Int) y => y = p) (evr_var rfl hrp) (fun xs h => by rw [h]; omega) (fun _ => rfl) (fun _ _ _ _ _ _ _ _ => et_yes) fun xs p vp G2 hxs hp _ e2 rp => ?_)) H' (Ex.refl H') _ fun ys yv G9 H9 hys g9 ry => ?_
      · have hpl : p.length = wb.1 := by
          rw [hxs] at hp
          exact ((hap.mem p).mp hp).len
        refine (evp_tupL (K := K) (EvN.toR (K := K) (evn_lcR (S := rInt) (n := wb.1) (j := 13) (fun _ => true) (fun (f : Nat) y => y = p.getD f 0) (ev_nat (web0 e2 hvE rfl)) (by omega) (fun _ => rfl) (fun _ _ _ _ => et_yes) fun f G3 hf _ e3 => evr_int (ev_dgetF (evr_var rfl (Mono.mono e3 rp)) (ev_var rfl) (oo.pm.mem_iff.mpr (List.mem_range.mpr hf)))))).imp fun ys h => ?_
        have := made_map h
        rw [this, List.filter_eq_self.mpr (fun _ _ => rfl)]
        refine List.ext_getElem? fun i => ?_
        rw [List.getElem?_map]
        by_cases hi : i < wb.1
        · rw [List.getElem?_range hi, get_getD (l := p) (i := i) 0 (by rw [hpl]; exact hi)]
          rfl
        · rw [List.getElem?_eq_none (by rw [List.length_range]; omega), List.getElem?_eq_none (by rw [hpl]; omega)]
          rfl
      · obtain ⟨xs, rfl, h⟩ := hys
        have := made_map h
        rw [List.filter_eq_self.mpr (fun _ _ => rfl), List.map_id'] at this
        subst this
        obtain ⟨a, us, rfl, hl, r⟩ := ry
        refine p_nil ⟨a, us, ys, rfl, ex_l g9.sub hl, tups_of (seq_mono g9.sub r), fun t ht hz => ?_, fun zs p2 pm n2 => ?_⟩
        · have := ((hap.mem t).mp ht).len
          rw [hz] at this
          simp at this
          omega
        · have pm2 : (zs.map (·.2)).Perm ys := by
            have := pm.map (·.2)
            rw [snd_zip (seq_len r)] at this
            exact this
          refine q (zs.map (·.2)) (.ref p2) _ (all_lays oo ok.form hap pm2) (by rw [pm2.length_eq]; exact hl256) (xN0.trans (LamX.ExtN.of (((e8.trans eG).trans g9.act).trans (Ex.new n2)))) ⟨p2, _, rfl, SqL.of upd_same, ?_⟩
          exact seq_mono (Ex.new n2) (paired_zip fun z hz => zip_paired (seq_mono g9.sub r) z (pm.mem_iff.mp hz))
end
end Tr
namespace Tr
open PySem PySem.Spec PyProof.Rows L2 Evl RZ
section
variable {P : Program} {w : World} {K : PySem.W.Frag} {mg : Str → Option Value} {base : Heap}
def rId : Rp V := fun _ v x => v = x
instance : Mono rId := ⟨fun _ h => h⟩
theorem seq_id {H : Hp} : ∀ vs : List V, rSeq rId H vs vs
  | [] => .nil
  | v :: r => .cons rfl (seq_id r)
theorem rid_tup {H : Hp} {p : Addr} {vs : List V} (h : SqT K H p vs) : rTup K rId H (.ref p) vs := ⟨p, vs, rfl, h, seq_id vs⟩
def Same (K : PySem.W.Frag) : Nat → Hp → V → V → Prop
  | 0, _, a, b => ∃ i : Int, a = .int i ∧ b = .int i
  | d + 1, H, a, b => (∃ i : Int, a = .int i ∧ b = .int i) ∨ ∃ (p q : Addr) (vs ws : List V), a = .ref p ∧ b = .ref q ∧ SqT K H p vs ∧ SqT K H q ws ∧ vs.length = ws.length ∧ ws.length < 100000 ∧ ∀ (i : Nat) (v w : V), vs[i]? = some v → ws[i]? = some w → Same K d H v w
theorem Same.ex {H H' : Hp} (e : Ex H H') : ∀ {d : Nat} {a b : V}, Same K d H a b → Same K d H' a b
  | 0, _, _, h => by
    unfold Same at h ⊢
    exact h
  | d + 1, _, _, h => by
    rcases h with h | ⟨p, q, vs, ws, h1, h2, h3, h4, h5, h6, h7⟩
    · exact .inl h
    · exact .inr ⟨p, q, vs, ws, h1, h2, ex_t e h3, ex_t e h4, h5, h6, fun i v w hv hw => (h7 i v w hv hw).ex e⟩
def spAlike (K : PySem.W.Frag) (d : Nat) : Sp := fun vs H Q _ => ∃ a b, vs = [a, b] ∧ Same K d H a b ∧ ∀ H2, Ex H H2 → Q (.bl true) H2
theorem ev_isiT {σ : L2.St} {F : Hp} {te : TE} {x : V} {a : String} {r : Bool} (hx : Ev te σ F x) (ty : ∀ H, Ex F H → TyX K H x (.type a)) (h : PySem.W.kitAny K (.type a) [.type "tuple", .type "list"] = some r) : Ev (tCB (rIsiT K) (tCons te (tCons (tTup (tCons (tC (.ty "tuple")) (tCons (tC (.ty "list")) tNil))) tNil))) σ F (.bl r) := fun H e Q q =>
  p_cb (p_cons (hx H e _ fun H1 e1 => p_cons ⟨by show 2 ≤ sizeLine; decide, fun p np => p_nil ⟨x, p, [.ty "tuple", .ty "list"], .type a, [.type "tuple", .type "list"], r, rfl, upd_same, .cons (.ty _) (.cons (.ty _) .nil), ty _ ((e.trans e1).trans (Ex.new np)), h, q _ (e1.trans (Ex.new np))⟩⟩))
theorem any_int : PySem.W.kitAny K (.type "int") [.type "tuple", .type "list"] = some false := kitAny_cons (kit_ty (r := false) (by decide +kernel)) (fun _ => kitAny_cons (kit_ty (r := false) (by decide +kernel)) (fun _ => rfl) (fun h => (by cases h))) (fun h => (by cases h))
theorem any_tup : PySem.W.kitAny K (.type "tuple") [.type "tuple", .type "list"] = some true := kitAny_cons (kit_ty (r := true) (by decide +kernel)) (fun h => (by cases h)) fun _ => rfl
theorem sc_law_alike : FnScope ["_law_found", "_law_due", "_law_k"] ["_law_found", "_law_due"] (defScope (top 38)) := ⟨rfl, rfl, rfl, by decide +kernel, rfl, by decide +kernel, by decide +kernel⟩
theorem c_law_alike0 (D : Def K mg "_law_alike" (top 38) ["_law_found", "_law_due"]) (B : Bi mg) : Cal P w K mg base 1 "_law_alike" (spAlike K 0) := by
  refine D.cal sc_law_alike (fun vs H Q E h => ?_) (fun fa cdv A outer s H vs Q E hr h => ?_)
  · obtain ⟨a, b, rfl, _⟩ := h
    rfl
  · obtain ⟨a, b, rfl, ⟨i, rfl, rfl⟩, q⟩ := h
    refine ⟨_, (pss_cons (ps_if (pt_val (pe_callB (call_isiT' K) (by rfl) B.isinstance (by decide +kernel) (pa_cons (pv 1) (pa_cons (pe_tup (pa_cons (pe_bltn (v := .ty "tuple") (by rfl) B.tuple_ (by decide +kernel) rfl) (pa_cons (pe_bltn (v := .ty "list") (by rfl) B.list_ (by decide +kernel) rfl) pa_nil))) pa_nil))))
       ((pss_cons (ps_if (PW.pt (pw_or (pt_not (pt_val (pe_callB (call_isiT' K) (by rfl) B.isinstance (by decide +kernel) (pa_cons (pv 0) (pa_cons (pe_tup (pa_cons (pe_bltn (v := .ty "tuple") (by rfl) B.tuple_ (by decide +kernel) rfl) (pa_cons (pe_bltn (v := .ty "list") (by rfl) B.list_ (by decide +kernel) rfl) pa_nil))) pa_nil))))) (pw_or1 (pt_cmpR op_ne (pe_callB (call_isi' K) (by rfl) B.isinstance (by decide +kernel) (pa_cons (pv 0) (pa_cons (pe_bltn (v := .ty "list") (by rfl) B.list_ (by decide +kernel) rfl) pa_nil))) (pe_callB (call_isi' K) (by rfl) B.isinstance (by decide +kernel) (pa_cons (pv 1) (pa_cons (pe_bltn (v := .ty "list") (by rfl) B.list_ (by decide +kernel) rfl) pa_nil))) (nomark _)))))
        (pss_never)
        (pss_nil))
       (pss_cons (ps_if (pt_cmpR op_ne (pe_callB (call_len' K) (by rfl) B.len PySem.boot_len (pa_cons (pv 0) pa_nil)) (pe_callB (call_len' K) (by rfl) B.len PySem.boot_len (pa_cons (pv 1) pa_nil)) (nomark _))
        (pss_never)
        (pss_nil))
       (pss_one (ps_ret (pe_cmpR (op_eqD' K hr.units) (pe_lc (own := [("_law_k", 2)]) rfl sc_law_alike.nd (pi_range1 (by rfl) B.range (pa_cons (pe_callB (call_len' K) (by rfl) B.len PySem.boot_len (pa_cons (pv 1) pa_nil)) pa_nil)) (blkOk_by (N := ["_law_found", "_law_due", "_law_k"]) (sc := defScope (top 38)) (by decide +kernel)) (fun _ _ _ _ _ => (pg_name (i := 2) sc_law_alike.nd rfl (.inl rfl))) (fun _ _ _ _ _ => (pts_one (pt_not (pt_val pe_never)))) (fun _ _ _ _ _ => (pv 2))) (pe_lst pa_nil) (nomark _)))))))
       (pss_nil))
      (pss_cons (ps_if (PW.pt (pw_or (pt_cmpR op_isN (pv 1) pe_non (nomark _)) (pw_or1 (pt_val (pe_callB (call_isi' K) (by rfl) B.isinstance (by decide +kernel) (pa_cons (pv 1) (pa_cons (pe_bltn (v := .ty "str") (by rfl) B.str_ (by decide +kernel) rfl) pa_nil)))))))
       ((pss_one (ps_ret (pe_and (pe_cmpR op_eq (pv 0) (pv 1) (nomark _)) (pe_one (pe_cmpR op_eq (pe_callB (call_isi' K) (by rfl) B.isinstance (by decide +kernel) (pa_cons (pv 0) (pa_cons (pe_bltn (v := .ty "str") (by rfl) B.str_ (by decide +kernel) rfl) pa_nil))) (pe_callB (call_isi' K) (by rfl) B.isinstance (by decide +kernel) (pa_cons (pv 1) (pa_cons (pe_bltn (v := .ty "str") (by rfl) B.str_ (by decide +kernel) rfl) pa_nil))) (nomark _)))))))
       (pss_nil))
      (pss_one (ps_ret (pe_and (pe_callB (call_isi' K) (by rfl) B.isinstance (by decide +kernel) (pa_cons (pv 0) (pa_cons (pe_bltn (v := .ty "int") (by rfl) B.int_ (by decide +kernel) rfl) pa_nil))) (pe_and (pe_cmpR op_eq (pe_callB (call_isi' K) (by rfl) B.isinstance (by decide +kernel) (pa_cons (pv 0) (pa_cons (pe_bltn (v := .ty "bool") (by rfl) B.bool_ (by decide +kernel) rfl) pa_nil))) (pe_callB (call_isi' K) (by rfl) B.isinstance (by decide +kernel) (pa_cons (pv 1) (pa_cons (pe_bltn (v := .ty "bool") (by rfl) B.bool_ (by decide +kernel) rfl) pa_nil))) (nomark _)) (pe_one (pe_cmpR op_eq (pv 0) (pv 1) (nomark _))))))))), ?_⟩
    refine q_skip (F := H) (et_B (ev_isiT (ev_var rfl) (fun _ _ => .base (.int i)) any_int)) (Ex.refl H) fun H1 e1 => ?_
    refine q_skip (F := H1) (et_or0 (et_test (ev_op (x := .int i) (y := .non) (ev_var rfl) ev_c rv_isN)) (et_B (ev_cb (ea_cons (ev_var rfl) (ea_cons ev_c ea_nil)) (rc_isi_int (b := "str") (r := false) (by decide +kernel))))) (Ex.refl H1) fun H2 e2 => ?_
    refine s_retV (F := H2) (ev_to (ev_andV (ev_cb (ea_cons (ev_var rfl) (ea_cons ev_c ea_nil)) (rc_isi_int (i := i) (b := "int") (r := true) (by decide +kernel))) fun _ => ev_andV (a := true) (b := true) (ev_to (ev_op (ev_cb (ea_cons (ev_var rfl) (ea_cons ev_c ea_nil)) (rc_isi_int (i := i) (b := "bool") (r := false) (by decide +kernel))) (ev_cb (ea_cons (ev_var rfl) (ea_cons ev_c ea_nil)) (rc_isi_int (i := i) (b := "bool") (r := false) (by decide +kernel))) (rv_eq rfl)) rfl) fun _ => ev_to (ev_op (ev_var rfl) (ev_var rfl) (rv_eq rfl)) (by rw [decide_eq_true rfl])) rfl) (Ex.refl H2) fun H3 e3 => q H3 ((e1.trans e2).trans e3)
theorem c_law_alikeS {d : Nat} (D : Def K mg "_law_alike" (top 38) ["_law_found", "_law_due"]) (B : Bi mg) (c_law_alike : Cal P w K mg base (d + 1) "_law_alike" (spAlike K d)) : Cal P w K mg base (d + 2) "_law_alike" (spAlike K (d + 1)) := by
  refine D.cal sc_law_alike (fun vs H Q E h => ?_) (fun fa cdv A outer s H vs Q E hr h => ?_)
  · obtain ⟨a, b, rfl, _⟩ := h
    rfl
  · obtain ⟨a, b, rfl, hs, q⟩ := h
    refine ⟨_, (pss_cons (ps_if (pt_val (pe_callB (call_isiT' K) (by rfl) B.isinstance (by decide +kernel) (pa_cons (pv 1) (pa_cons (pe_tup (pa_cons (pe_bltn (v := .ty "tuple") (by rfl) B.tuple_ (by decide +kernel) rfl) (pa_cons (pe_bltn (v := .ty "list") (by rfl) B.list_ (by decide +kernel) rfl) pa_nil))) pa_nil))))
       ((pss_cons (ps_if (PW.pt (pw_or (pt_not (pt_val (pe_callB (call_isiT' K) (by rfl) B.isinstance (by decide +kernel) (pa_cons (pv 0) (pa_cons (pe_tup (pa_cons (pe_bltn (v := .ty "tuple") (by rfl) B.tuple_ (by decide +kernel) rfl) (pa_cons (pe_bltn (v := .ty "list") (by rfl) B.list_ (by decide +kernel) rfl) pa_nil))) pa_nil))))) (pw_or1 (pt_cmpR op_ne (pe_callB (call_isi' K) (by rfl) B.isinstance (by decide +kernel) (pa_cons (pv 0) (pa_cons (pe_bltn (v := .ty "list") (by rfl) B.list_ (by decide +kernel) rfl) pa_nil))) (pe_callB (call_isi' K) (by rfl) B.isinstance (by decide +kernel) (pa_cons (pv 1) (pa_cons (pe_bltn (v := .ty "list") (by rfl) B.list_ (by decide +kernel) rfl) pa_nil))) (nomark _)))))
        (pss_never)
        (pss_nil))
       (pss_cons (ps_if (pt_cmpR op_ne (pe_callB (call_len' K) (by rfl) B.len PySem.boot_len (pa_cons (pv 0) pa_nil)) (pe_callB (call_len' K) (by rfl) B.len PySem.boot_len (pa_cons (pv 1) pa_nil)) (nomark _))
        (pss_never)
        (pss_nil))
       (pss_one (ps_ret (pe_cmpR (op_eqD' K hr.units) (pe_lc (own := [("_law_k", 2)]) rfl sc_law_alike.nd (pi_range1 (by rfl) B.range (pa_cons (pe_callB (call_len' K) (by rfl) B.len PySem.boot_len (pa_cons (pv 1) pa_nil)) pa_nil)) (blkOk_by (N := ["_law_found", "_law_due", "_law_k"]) (sc := defScope (top 38)) (by decide +kernel)) (fun _ _ _ _ _ => (pg_name (i := 2) sc_law_alike.nd rfl (.inl rfl))) (fun _ _ _ _ _ => (pts_one (pt_not (pt_val (pe_k c_law_alike hr (Nat.le_refl _) (by rfl) (pa_cons (pe_ix (ix_tup' K) (pv 0) (pv 2) (fun _ _ => rfl)) (pa_cons (pe_ix (ix_tup' K) (pv 1) (pv 2) (fun _ _ => rfl)) pa_nil))))))) (fun _ _ _ _ _ => (pv 2))) (pe_lst pa_nil) (nomark _)))))))
       (pss_nil))
      (pss_cons (ps_if (PW.pt (pw_or (pt_cmpR op_isN (pv 1) pe_non (nomark _)) (pw_or1 (pt_val (pe_callB (call_isi' K) (by rfl) B.isinstance (by decide +kernel) (pa_cons (pv 1) (pa_cons (pe_bltn (v := .ty "str") (by rfl) B.str_ (by decide +kernel) rfl) pa_nil)))))))
       ((pss_one (ps_ret (pe_and (pe_cmpR op_eq (pv 0) (pv 1) (nomark _)) (pe_one (pe_cmpR op_eq (pe_callB (call_isi' K) (by rfl) B.isinstance (by decide +kernel) (pa_cons (pv 0) (pa_cons (pe_bltn (v := .ty "str") (by rfl) B.str_ (by decide +kernel) rfl) pa_nil))) (pe_callB (call_isi' K) (by rfl) B.isinstance (by decide +kernel) (pa_cons (pv 1) (pa_cons (pe_bltn (v := .ty "str") (by rfl) B.str_ (by decide +kernel) rfl) pa_nil))) (nomark _)))))))
       (pss_nil))
      (pss_one (ps_ret (pe_and (pe_callB (call_isi' K) (by rfl) B.isinstance (by decide +kernel) (pa_cons (pv 0) (pa_cons (pe_bltn (v := .ty "int") (by rfl) B.int_ (by decide +kernel) rfl) pa_nil))) (pe_and (pe_cmpR op_eq (pe_callB (call_isi' K) (by rfl) B.isinstance (by decide +kernel) (pa_cons (pv 0) (pa_cons (pe_bltn (v := .ty "bool") (by rfl) B.bool_ (by decide +kernel) rfl) pa_nil))) (pe_callB (call_isi' K) (by rfl) B.isinstance (by decide +kernel) (pa_cons (pv 1) (pa_cons (pe_bltn (v := .ty "bool") (by rfl) B.bool_ (by decide +kernel) rfl) pa_nil))) (nomark _)) (pe_one (pe_cmpR op_eq (pv 0) (pv 1) (nomark _))))))))), ?_⟩
    rcases hs with ⟨i, rfl, rfl⟩ | ⟨p, r, vs, ws, rfl, rfl, h3, h4, h5, h6, h7⟩
    · refine q_skip (F := H) (et_B (ev_isiT (ev_var rfl) (fun _ _ => .base (.int i)) any_int)) (Ex.refl H) fun H1 e1 => ?_
      refine q_skip (F := H1) (et_or0 (et_test (ev_op (x := .int i) (y := .non) (ev_var rfl) ev_c rv_isN)) (et_B (ev_cb (ea_cons (ev_var rfl) (ea_cons ev_c ea_nil)) (rc_isi_int (b := "str") (r := false) (by decide +kernel))))) (Ex.refl H1) fun H2 e2 => ?_
      refine s_retV (F := H2) (ev_to (ev_andV (ev_cb (ea_cons (ev_var rfl) (ea_cons ev_c ea_nil)) (rc_isi_int (i := i) (b := "int") (r := true) (by decide +kernel))) fun _ => ev_andV (a := true) (b := true) (ev_to (ev_op (ev_cb (ea_cons (ev_var rfl) (ea_cons ev_c ea_nil)) (rc_isi_int (i := i) (b := "bool") (r := false) (by decide +kernel))) (ev_cb (ea_cons (ev_var rfl) (ea_cons ev_c ea_nil)) (rc_isi_int (i := i) (b := "bool") (r := false) (by decide +kernel))) (rv_eq rfl)) rfl) fun _ => ev_to (ev_op (ev_var rfl) (ev_var rfl) (rv_eq rfl)) (by rw [decide_eq_true rfl])) rfl) (Ex.refl H2) fun H3 e3 => q H3 ((e1.trans e2).trans e3)
    · refine q_ifT (F := H) (et_B (ev_isiT (ev_var rfl) (fun _ e => tyx_tup (ex_t e h4)) any_tup)) (Ex.refl H) fun H1 e1 => ?_
      refine q_skip (F := H) (et_or0 (et_nT (et_B (ev_isiT (ev_var rfl) (fun _ e => tyx_tup (ex_t e h3)) any_tup))) (et_test (ev_op (ev_cb (ea_cons (ev_var rfl) (ea_cons ev_c ea_nil)) (rc_isi_tup h3 (b := "list") (r := false) (by decide +kernel))) (ev_cb (ea_cons (ev_var rfl) (ea_cons ev_c ea_nil)) (rc_isi_tup h4 (b := "list") (r := false) (by decide +kernel))) (rv_ne rfl)))) e1 fun H2 e2 => ?_
      have x2 := e1.trans e2
      refine q_skip (F := H) (et_to (et_test (ev_op (ev_lenT (R := rId) (evr_var rfl (rid_tup h3))) (ev_lenT (R := rId) (evr_var rfl (rid_tup h4))) (rv_ne rfl))) (by rw [h5]; simp)) x2 fun H3 e3 => ?_
      refine s_retV (F := H) (ev_eqNil (K := K) (R := rNat) (b := true) (EvN.toR (K := K) (evn_lcR (S := rNat) (n := ws.length) (j := 2) (fun _ => false) (fun (i : Nat) y => y = i) (ev_lenT (R := rId) (evr_var rfl (rid_tup h4))) h6 (fun _ => rfl) (fun i G hi e4 => ?_) (fun i G hi hf => (by cases hf)))) fun xs h => ?_) (x2.trans e3) fun H4 e4 => q H4 ((x2.trans e3).trans e4)
      · have hw : ws[i]? = some ws[i] := List.getElem?_eq_getElem hi
        have hv : vs[i]? = some (vs[i]'(by rw [h5]; exact hi)) := List.getElem?_eq_getElem (by rw [h5]; exact hi)
        exact et_nT (b := true) (et_B fun H5 e5 Q5 q5 => p_call (p_cons ((ev_op (ev_var rfl) (ev_var rfl) (rv_ixT (ex_t e4 h3) (atN hv))) H5 e5 _ fun H6 e6 => p_cons ((ev_op (ev_var rfl) (ev_var rfl) (rv_ixT (ex_t e4 h4) (atN hw))) H6 (e5.trans e6) _ fun H7 e7 => p_nil ⟨_, _, rfl, (h7 i _ _ hv hw).ex (((e4.trans e5).trans e6).trans e7), fun H8 e8 => q5 H8 ((e6.trans e7).trans e8)⟩))))
      · rw [made_none h]
        rfl
end
end Tr
namespace Tr
open PySem PySem.Spec PyProof.Rows L2 Evl RZ
section
variable {P : Program} {w : World} {K : PySem.W.Frag} {mg : Str → Option Value} {base : Heap}
theorem nodup_small {ks : List Int} (nd : ks.Nodup) (h : ∀ k ∈ ks, -30 ≤ k ∧ k ≤ 30) : ks.length < 64 := by
  have h2 : (ks.map fun k => (k + 30).toNat).Nodup := nodup_map nd fun x hx y hy e => by
    have h1 := h x hx
    have h2 := h y hy
    omega
  have h3 := nodup_lt_len 61 _ h2 fun x hx => by
    obtain ⟨k, hk, rfl⟩ := List.mem_map.mp hx
    have := h k hk
    omega
  rw [List.length_map] at h3
  omega
theorem evp_tally {σ : L2.St} {F : Hp} {v : V} {xs : List Int} {i j : Nat} (hi : σ[i]? = some (some v)) (hv : rLst K rInt F v xs) (hz : xs.length ≤ 256) (hb : ∀ k ∈ xs, -30 ≤ k ∧ k ≤ 30) (hw : ∀ z, wipe ((wipe σ [j]).set j (some z)) [j] = wipe σ [j]) (hj : ∀ z, ((wipe σ [j]).set j (some z))[j]? = some (some z)) (hij : ∀ z, ((wipe σ [j]).set j (some z))[i]? = some (some v)) :
    EvP (rTup K (rPr K rInt rInt)) (IsTally xs) (tCB (rTupS K) (tCons (tLc (iList K (tCB (rSortedSet w) (tCons (tCB (rSetI K w) (tCons (tVar i) tNil)) tNil))) (gName j) tYes (tTup (tCons (tVar j) (tCons (tBM K "list" (rCntI K) (tVar i) (tCons (tVar j) tNil)) tNil))) [j]) tNil)) σ F := by
  obtain ⟨p, vs, rfl, hl, r⟩ := hv
  have := ints_of r
  subst this
  have hset : EvN rInt (fun us => us.Pairwise (· < ·) ∧ ∀ u, u ∈ us ↔ u ∈ xs) (tCB (rSortedSet w) (tCons (tCB (rSetI K w) (tCons (tVar i) tNil)) tNil)) σ F := by
    refine fun H e Q q => p_cb (p_cons (p_cb (p_cons (p_var hi (p_nil ⟨p, xs, rfl, ex_l e hl, by omega, fun a f n ks na hf nd hn hk => p_nil ⟨a, f, n, rfl, upd_same, by rw [← hn]; exact nodup_small nd fun k h => hb k ((hk k).mp h), fun ns p2 up hm hln np => ?_⟩⟩)))))
    have x2 := (Ex.new (o := SetO w a f n) na).trans (Ex.new (o := .lst (ns.map V.int)) np)
    exact q ns p2 (ns.map V.int) F _ ⟨up, fun u => (hm u).trans (hf u)⟩ (Grow.of e x2) (fresh_back (e.trans (Ex.new na)) np) (fresh_back (Ex.new na) np) upd_same (seq_ints ns)
  · refine (evp_tupL (K := K) (EvN.toR (K := K) (evn_lcL (K := K) (R := rInt) (S := rPr K rInt rInt) (j := j) (fun _ => true) (fun (u : Int) (z : Int × Int) => z = (u, (xs.count u : Int))) (EvN.toR (K := K) hset) (fun us h => ?_) hw (fun _ _ _ _ _ _ _ _ => et_yes) fun us u uv G hus hu _ eg ru => ?_))).imp fun t h => ?_
    · have := nodup_small (h.1.imp fun {a b} h => (by omega : a ≠ b)) fun k hk => hb k ((h.2 k).mp hk)
      omega
    · cases (show uv = .int u from ru)
      exact evr_pair (R := rInt) (S := rInt) (evr_int (ev_var (hj _))) (evr_int fun H e Q q => p_bm (p_var (hij _) ⟨.inl ⟨rfl, _, ex_l (eg.trans e) hl⟩, p_cons (p_var (hj _) (p_nil ⟨p, xs, u, rfl, rfl, ex_l (eg.trans e) hl, q H (Ex.refl H)⟩))⟩))
    · obtain ⟨us, hu, hm⟩ := h
      exact ⟨us, hu.1, hu.2, by
        have := made_map hm
        rw [List.filter_eq_self.mpr (fun _ _ => rfl)] at this
        exact this⟩
theorem same_int {H : Hp} (i : Int) : ∀ d, Same K d H (.int i) (.int i)
  | 0 => ⟨i, rfl, rfl⟩
  | _ + 1 => .inl ⟨i, rfl, rfl⟩
theorem same_pr {H : Hp} {v u : V} {x : Int × Int} {d : Nat} (h1 : rPr K rInt rInt H v x) (h2 : rPr K rInt rInt H u x) : Same K (d + 1) H v u := by
  obtain ⟨p, a, b, rfl, hp, ha, hb⟩ := h1
  obtain ⟨q, a2, b2, rfl, hq, ha2, hb2⟩ := h2
  cases (show a = .int x.1 from ha)
  cases (show b = .int x.2 from hb)
  cases (show a2 = .int x.1 from ha2)
  cases (show b2 = .int x.2 from hb2)
  refine .inr ⟨p, q, _, _, rfl, rfl, hp, hq, rfl, by show 2 < 100000; decide, fun i v w hv hw => ?_⟩
  match i, hv, hw with
  | 0, hv, hw =>
    cases hv
    cases hw
    exact same_int _ d
  | 1, hv, hw =>
    cases hv
    cases hw
    exact same_int _ d
  | i + 2, hv, _ => cases hv
theorem same_tally {H : Hp} {v u : V} {t : List (Int × Int)} (hz : t.length < 100000) (h1 : rTup K (rPr K rInt rInt) H v t) (h2 : rTup K (rPr K rInt rInt) H u t) : Same K 2 H v u := by
  obtain ⟨p, vs, rfl, hp, r1⟩ := h1
  obtain ⟨q, ws, rfl, hq, r2⟩ := h2
  have l1 := seq_len r1
  have l2 := seq_len r2
  refine .inr ⟨p, q, vs, ws, rfl, rfl, hp, hq, by omega, by omega, fun i v w hv hw => ?_⟩
  obtain ⟨x, hx, rx⟩ := seq_getv r1 hv
  obtain ⟨y, hy, ry⟩ := seq_getv r2 hw
  rw [hx] at hy
  cases hy
  exact same_pr rx ry
theorem tally_len {xs : List Int} {t : List (Int × Int)} (h : IsTally xs t) (hb : ∀ k ∈ xs, -30 ≤ k ∧ k ≤ 30) : t.length < 64 := by
  obtain ⟨us, h1, h2, rfl⟩ := h
  rw [List.length_map]
  exact nodup_small (rise_nodup h1) fun k hk => hb k ((h2 k).mp hk)
theorem tally_bnd {xs : List Int} {t : List (Int × Int)} (h : IsTally xs t) (hb : ∀ p ∈ t, 0 ≤ p.1 ∧ p.1 ≤ 8) : ∀ k ∈ xs, 0 ≤ k ∧ k ≤ 8 := fun k hk => by
  obtain ⟨us, h1, h2, rfl⟩ := h
  exact hb (k, (xs.count k : Int)) (List.mem_map.mpr ⟨k, (h2 k).mpr hk, rfl⟩)
theorem q_skipP {σ : L2.St} {H : Hp} {D : Ends} {u2 tu : TS} {Z : Prop} {te : TE} (h : ∀ Q : VK, (Z → ∀ H1, Ex H H1 → Q (.bl true) H1) → te σ H Q) (k : Z → ∀ H1, Ex H H1 → u2 D σ H1) : tSeq (tIfS (tNot (tB te)) tu tNext) u2 D σ H :=
  h _ fun z H1 e1 => ⟨true, rfl, by
    show (if (!true) = true then tu ⟨u2 D, D.rt, D.bk, D.ct⟩ σ H1 else u2 D σ H1)
    rw [if_neg (by decide)]
    exact k z H1 e1⟩
def spLaw (K : PySem.W.Frag) (PT : Addr) : Sp := fun vs H Q _ => ∃ (a : Addr) (script : List Int), vs = [.ref a] ∧ SqL K H a (script.map V.int) ∧ LamX.Tabs (lamT PT) H ∧ ∀ H2, Q (.bl true) H2
theorem sc_law : FnScope ["_law_script", "_law_row", "_law_web_here", "_law_every", "_law_spans", "_law_lows", "_law_there", "_law_span", "_law_low"] ["_law_script"] (defScope (top 47)) := ⟨rfl, rfl, rfl, by decide +kernel, rfl, by decide +kernel, by decide +kernel⟩
theorem c_law {PT fa : Addr} {fd : FuncData} (D : Fun K "law" "law" (top 47) fa fd) (B : Bi mg) (c_law_web : Cal P w K mg base 4 "_law_web" (spWebL K)) (c_law_all : Cal P w K mg base 3 "_law_all" (spAll K PT)) (c_law_alike : Cal P w K mg base 3 "_law_alike" (spAlike K 2)) (c_span_tally : Cal P w K mg base 7 "span_tally" (spSpanT K)) (c_law_lowered : Cal P w K mg base 2 "_law_lowered" (spLowered K)) (c_mean_span : Cal P w K mg base 8 "mean_span" (spMean K)) (c_lowest_tally : Cal P w K mg base 7 "lowest_tally" (spLowT K)) : FnOk P w K mg base L2.CX0 9 fa fd ["_law_script"] (spLaw K PT) := by
  refine D.ok sc_law (fun vs H Q E h => ?_) (fun cdv A outer s H vs Q E hr h => ?_)
  · obtain ⟨a, script, rfl, _⟩ := h
    rfl
  · obtain ⟨a, script, rfl, hs, hT, q⟩ := h
    refine ⟨_, (pss_cons (ps_set (i := 1) sc_law.nd rfl (.inl rfl) (pe_lst (pa_cons (pv 0) (pa_cons pe_int (pa_cons pe_int (pa_cons pe_int pa_nil))))))
      (pss_cons (ps_set (i := 2) sc_law.nd rfl (.inl rfl) (pe_k c_law_web hr (by decide) (by rfl) (pa_cons (pv 1) (pa_cons pe_int pa_nil))))
      (pss_cons (ps_set (i := 3) sc_law.nd rfl (.inl rfl) (pe_k c_law_all hr (by decide) (by rfl) (pa_cons (pv 2) (pa_cons pe_int (pa_cons pe_int pa_nil)))))
      (pss_cons (ps_asg (pe_tup (pa_mon (pa_cons (pe_lc (own := [("_law_there", 6)]) rfl sc_law.nd (pi_list' K (pv 3)) (blkOk_by (N := ["_law_script", "_law_row", "_law_web_here", "_law_every", "_law_spans", "_law_lows", "_law_there", "_law_span", "_law_low"]) (sc := defScope (top 47)) (by decide +kernel)) (fun _ _ _ _ _ => (pg_name (i := 6) sc_law.nd rfl (.inl rfl))) (fun _ _ _ _ _ => pts_nil) (fun _ _ _ _ _ => (pe_op op_sub (pe_callB (cr_maxT' K rfl hr) (by rfl) B.max (by decide +kernel) (pa_cons (pv 6) pa_nil)) (pe_callB (cr_minT' K rfl hr) (by rfl) B.min (by decide +kernel) (pa_cons (pv 6) pa_nil))))) (pa_cons (pe_lc (own := [("_law_there", 6)]) rfl sc_law.nd (pi_list' K (pv 3)) (blkOk_by (N := ["_law_script", "_law_row", "_law_web_here", "_law_every", "_law_spans", "_law_lows", "_law_there", "_law_span", "_law_low"]) (sc := defScope (top 47)) (by decide +kernel)) (fun _ _ _ _ _ => (pg_name (i := 6) sc_law.nd rfl (.inl rfl))) (fun _ _ _ _ _ => pts_nil) (fun _ _ _ _ _ => (pe_callB (cr_minT' K rfl hr) (by rfl) B.min (by decide +kernel) (pa_cons (pv 6) pa_nil)))) pa_nil)))) (pg_tup' (n := 2) K rfl (pgs_cons (pg_name (i := 4) sc_law.nd rfl (.inr rfl)) (pgs_cons (pg_name (i := 5) sc_law.nd rfl (.inr rfl)) pgs_nil))))
      (pss_cons (ps_if (pt_not (pt_val (pe_k c_law_alike hr (by decide) (by rfl) (pa_cons (pe_k c_span_tally hr (by decide) (by rfl) (pa_cons (pv 2) pa_nil)) (pa_cons (pe_callTy (call_tuple' K) (by rfl) B.tuple_ (by decide +kernel) (pa_cons (pe_lc (own := [("_law_span", 7)]) rfl sc_law.nd (pi_list' K (pe_callB (cr_sortedSet' w rfl) (by rfl) B.sorted (by decide +kernel) (pa_cons (pe_callTy (cr_setI K w rfl) (by rfl) B.set_ (by decide +kernel) (pa_cons (pv 4) pa_nil)) pa_nil))) (blkOk_by (N := ["_law_script", "_law_row", "_law_web_here", "_law_every", "_law_spans", "_law_lows", "_law_there", "_law_span", "_law_low"]) (sc := defScope (top 47)) (by decide +kernel)) (fun _ _ _ _ _ => (pg_name (i := 7) sc_law.nd rfl (.inl rfl))) (fun _ _ _ _ _ => pts_nil) (fun _ _ _ _ _ => (pe_tup (pa_cons (pv 7) (pa_cons (pe_bm' K PySem.F.plainAttrs_list PySem.F.slot_list_count PySem.F.type_list_count (mt_lcount' K) (pv 4) (pa_cons (pv 7) pa_nil)) pa_nil))))) pa_nil)) pa_nil)))))
       (pss_never)
       (pss_nil))
      (pss_cons (ps_if (pt_not (pt_val (pe_k c_law_alike hr (by decide) (by rfl) (pa_cons (pe_k c_mean_span hr (by decide) (by rfl) (pa_cons (pv 2) pa_nil)) (pa_cons (pe_k c_law_lowered hr (by decide) (by rfl) (pa_cons (pe_callB (cr_sum' K rfl) (by rfl) B.sum (by decide +kernel) (pa_cons (pv 4) pa_nil)) (pa_cons (pe_callB (call_len' K) (by rfl) B.len PySem.boot_len (pa_cons (pv 4) pa_nil)) pa_nil))) pa_nil)))))
       (pss_never)
       (pss_nil))
      (pss_one (ps_ret (pe_k c_law_alike hr (by decide) (by rfl) (pa_cons (pe_k c_lowest_tally hr (by decide) (by rfl) (pa_cons (pv 2) pa_nil)) (pa_cons (pe_callTy (call_tuple' K) (by rfl) B.tuple_ (by decide +kernel) (pa_cons (pe_lc (own := [("_law_low", 8)]) rfl sc_law.nd (pi_list' K (pe_callB (cr_sortedSet' w rfl) (by rfl) B.sorted (by decide +kernel) (pa_cons (pe_callTy (cr_setI K w rfl) (by rfl) B.set_ (by decide +kernel) (pa_cons (pv 5) pa_nil)) pa_nil))) (blkOk_by (N := ["_law_script", "_law_row", "_law_web_here", "_law_every", "_law_spans", "_law_lows", "_law_there", "_law_span", "_law_low"]) (sc := defScope (top 47)) (by decide +kernel)) (fun _ _ _ _ _ => (pg_name (i := 8) sc_law.nd rfl (.inl rfl))) (fun _ _ _ _ _ => pts_nil) (fun _ _ _ _ _ => (pe_tup (pa_cons (pv 8) (pa_cons (pe_bm' K PySem.F.plainAttrs_list PySem.F.slot_list_count PySem.F.type_list_count (mt_lcount' K) (pv 5) (pa_cons (pv 8) pa_nil)) pa_nil))))) pa_nil)) pa_nil))))))))))), ?_⟩
    have hsc : rLst K rInt H (.ref a) script := rint_list hs
    refine q_raw (p_lst (p_cons (p_var rfl (p_cons (p_c (p_cons (p_c (p_cons (p_c (p_nil ⟨by show 4 ≤ sizeLine; decide, fun row nrow => ?_⟩))))))))))
    have hrow : RowAt row (.ref a) (upd H row (.lst [.ref a, .int 0, .int 5435, .int 0])) := ⟨0, 5435, 0, by decide, upd_same⟩
    refine q_raw (p_call (p_cons (p_var rfl (p_cons (p_c (p_nil ⟨H, row, .ref a, script, rfl, Ex.new nrow, nrow, hsc, hrow, fun wb x G1 H1 ok g1 r1 rw1 => ?_⟩))))))
    have x1 : Ex H H1 := (ex_del (Ex.new nrow) nrow).trans g1.act
    have hw1 : rWeb K H1 x wb := Mono.mono g1.sub rw1
    refine q_raw (p_call (p_cons (p_var rfl (p_cons (p_c (p_cons (p_c (p_nil ⟨x, wb, rfl, hw1, ok, hT.ext x1, fun L y H2 AL hL xN ry => ?_⟩))))))))
    have hw2 : rWeb K H2 x wb := MonoN.go xN hw1
    have hne : ∀ l ∈ L, l ≠ [] := fun l hl z => by
      have h1 := ((AL.mem l).mp hl).1.1
      have h2 := ok.form.lo
      rw [z] at h1
      simp at h1
      omega
    refine q_tup2 (p_cons ((evn_lcL (K := K) (R := rTup K rInt) (S := rInt) (F := H2) (PL := fun ys => ys = L) (j := 6) (fun _ => true) (fun (l : List Int) z => z = spanI l) (evr_var rfl ry) (fun xs h => by rw [h]; omega) (fun _ => rfl) (fun _ _ _ _ _ _ _ _ => et_yes) fun xs l lv G hxs hl _ eg rl => evr_int (ev_op (ev_maxT (evr_var rfl rl) (hne l (by rw [← hxs]; exact hl))) (ev_minT (evr_var rfl rl) (hne l (by rw [← hxs]; exact hl))) rv_I0)) H2 (Ex.refl H2) _ fun s1 p1 us1 G3 H3 hs1 g3 n3 m3 h3 r3 => p_cons ((evn_lcL (K := K) (R := rTup K rInt) (S := rInt) (F := G3) (PL := fun ys => ys = L) (j := 6) (fun _ => true) (fun (l : List Int) z => z = minI l) (evr_var rfl (Mono.mono g3.fz ry)) (fun xs h => by rw [h]; omega) (fun _ => rfl) (fun _ _ _ _ _ _ _ _ => et_yes) fun xs l lv G hxs hl _ eg rl => evr_int (ev_minT (evr_var rfl rl) (hne l (by rw [← hxs]; exact hl)))) H3 g3.sub _ fun s2 p2 us2 G4 H4 hs2 g4 n4 m4 h4 r4 => p_nil ⟨_, _, rfl, fun pt npt => ?_⟩)))
    have xS : Ex H2 (upd H4 pt (.tup [.ref p1, .ref p2])) := g3.act.trans (g4.act.trans (Ex.new npt))
    have e1 : s1 = L.map spanI := by
      obtain ⟨xs, rfl, h⟩ := hs1
      have := made_map h
      rw [List.filter_eq_self.mpr (fun _ _ => rfl)] at this
      exact this
    have e2 : s2 = L.map minI := by
      obtain ⟨xs, rfl, h⟩ := hs2
      have := made_map h
      rw [List.filter_eq_self.mpr (fun _ _ => rfl)] at this
      exact this
    subst e1 e2
    have rs5 : rLst K rInt (upd H4 pt (.tup [.ref p1, .ref p2])) (.ref p1) (L.map spanI) := ⟨p1, us1, rfl, SqL.of (Ex.new npt _ _ (g4.act _ _ h3)), seq_mono (g3.sub.trans (g4.act.trans (Ex.new npt))) r3⟩
    have rl5 : rLst K rInt (upd H4 pt (.tup [.ref p1, .ref p2])) (.ref p2) (L.map minI) := ⟨p2, us2, rfl, SqL.of (Ex.new npt _ _ h4), seq_mono (g4.sub.trans (Ex.new npt)) r4⟩
    have hw5 : rWeb K (upd H4 pt (.tup [.ref p1, .ref p2])) x wb := Mono.mono xS hw2
    generalize (upd H4 pt (.tup [.ref p1, .ref p2])) = H5 at rs5 rl5 hw5 ⊢
    refine q_skipP (Z := ∀ k ∈ L.map spanI, 0 ≤ k ∧ k ≤ 8) (fun Q6 q6 => p_call (p_cons (p_call (p_cons (p_var rfl (p_nil ⟨H5, x, wb, L, rfl, Ex.refl H5, hw5, ok, AL, fun t v G7 H7 ht hb g7 r7 => ?_⟩)))))) fun hZ H6 e6 => ?_
    · have hbn := tally_bnd ht hb
      have hb30 : ∀ k ∈ L.map spanI, -30 ≤ k ∧ k ≤ 30 := fun k hk => by
        have := hbn k hk
        omega
      refine p_cons (evp_tally (K := K) (w := w) (xs := L.map spanI) (F := H5) rfl rs5 (by rw [List.length_map]; exact hL) hb30 (fun _ => rfl) (fun _ => rfl) (fun _ => rfl) H7 g7.act _ fun t2 v2 G8 H8 ht2 g8 r8 => ?_)
      have := tally_uniq ht ht2
      subst this
      exact p_nil ⟨v, v2, rfl, same_tally (Nat.lt_trans (tally_len ht hb30) (by decide)) (Mono.mono (g7.sub.trans g8.act) r7) (Mono.mono g8.sub r8), fun H9 e9 => q6 hbn H9 (g7.act.trans (g8.act.trans e9))⟩
    refine q_skipP (Z := True) (fun Q7 q7 => p_call (p_cons (p_call (p_cons (p_var rfl (p_nil ⟨H6, x, wb, L, rfl, Ex.refl H6, Mono.mono e6 hw5, ok, AL, by omega, fun y G7 H7 g7 r7 => ?_⟩)))))) fun _ H7 e7 => ?_
    · have hLne := lays_ne ok AL
      have hLpos : 0 < L.length := List.length_pos_iff.mpr hLne
      refine p_cons (p_call (p_cons (ev_to (ev_sum (evr_var rfl rs5)) (by rw [← spanSum_cast ok.form AL]) H7 (e6.trans g7.act) _ fun H8 e8 => p_cons (ev_to (ev_lenL (R := rInt) (evr_var rfl rs5)) (by rw [List.length_map]) H8 ((e6.trans g7.act).trans e8) _ fun H9 e9 => p_nil ⟨H9, spanSum L, L.length, rfl, Ex.refl H9, hLpos, by omega, fun z G10 H10 g10 r10 => ?_⟩))))
      exact p_nil ⟨y, z, rfl, same_pr (Mono.mono (g7.sub.trans ((e8.trans e9).trans g10.act)) r7) (Mono.mono g10.sub r10), fun H11 e11 => q7 trivial H11 ((g7.act.trans (e8.trans e9)).trans (g10.act.trans e11))⟩
    have hb30 : ∀ k ∈ L.map minI, -30 ≤ k ∧ k ≤ 30 := fun k hk => by
      obtain ⟨l, hl, rfl⟩ := List.mem_map.mp hk
      have h1 := hZ (spanI l) (List.mem_map.mpr ⟨l, hl, rfl⟩)
      have h0 := ((AL.mem l).mp hl).2
      have h2 : l.getD 0 0 ∈ l := get_mem (List.length_pos_iff.mpr (hne l hl))
      rw [h0] at h2
      have h3 := (minI_spec (hne l hl)).2 0 h2
      have h4 := (maxI_spec (hne l hl)).2 0 h2
      unfold spanI at h1
      omega
    refine s_retP (p_call (p_cons (p_call (p_cons (p_var rfl (p_nil ⟨H7, x, wb, L, rfl, Ex.refl H7, Mono.mono (e6.trans e7) hw5, ok, AL, fun t v G8 H8 ht g8 r8 => ?_⟩))))))
    refine p_cons (evp_tally (K := K) (w := w) (xs := L.map minI) (F := H5) rfl rl5 (by rw [List.length_map]; exact hL) hb30 (fun _ => rfl) (fun _ => rfl) (fun _ => rfl) H8 ((e6.trans e7).trans g8.act) _ fun t2 v2 G9 H9 ht2 g9 r9 => ?_)
    have := tally_uniq ht ht2
    subst this
    exact p_nil ⟨v, v2, rfl, same_tally (Nat.lt_trans (tally_len ht hb30) (by decide)) (Mono.mono (g8.sub.trans g9.act) r8) (Mono.mono g9.sub r9), fun H10 e10 => q H10⟩
end
end Tr
namespace Tr
open PySem PySem.Spec PyProof.Rows L2 Evl RZ
/-! ### what the top has written, and the promises one upon the other -/
section
variable {w : World} {K : PySem.W.Frag} {mg : Str → Option Value} {h : Heap}
theorem mkDef {x : Str} {st : Stmt} {ps : List Str} {f : Addr} {oc : Value} {od an : Option Addr} {osl : Array (Option Value)} {kV doc pm cdv ct : Value} (X : K.In h) (G : h.Ns mainGlobals mg) (a : PySem.W.nsIn K mainGlobals x = some (some (.ref f)))
    (l : K.lookup f = some ⟨oc, od, .func (PySem.W.fnOf x x (defArgs st) (defBody st) (defScope st) .none kV doc pm an cdv ct), osl⟩) (c : PySem.W.codeIn K cdv x = true) (k : PySem.W.keepIn K (.ref f) = true)
    (hb : ∀ (kV doc pm : Value) (an : Option Addr) (cdv ct : Value) (us : List Value), us.length = ps.length → bindArgs (PySem.W.fnOf x x (defArgs st) (defBody st) (defScope st) .none kV doc pm an cdv ct) ⟨us, []⟩ = pure (ps.zip us)) : Def K mg x st ps :=
  ⟨f, _, fun_mk l c k, PySem.W.mg_of X G a, (fun_mk l c k).binds hb⟩
theorem mkDefC {x : Str} {st : Stmt} {ps : List Str} {f c : Addr} {oc : Value} {od an : Option Addr} {osl : Array (Option Value)} {kV doc pm ct : Value} (X : K.In h) (G : h.Ns mainGlobals mg) (a : PySem.W.nsIn K mainGlobals x = some (some (.ref f)))
    (l : K.lookup f = some ⟨oc, od, .func (PySem.W.fnOf x x (defArgs st) (defBody st) (defScope st) .none kV doc pm an (.ref c) ct), osl⟩) (hc : PySem.W.codeIn K (.ref c) x = true) (k : PySem.W.keepIn K (.ref f) = true)
    (hb : ∀ (kV doc pm : Value) (an : Option Addr) (cdv ct : Value) (us : List Value), us.length = ps.length → bindArgs (PySem.W.fnOf x x (defArgs st) (defBody st) (defScope st) .none kV doc pm an cdv ct) ⟨us, []⟩ = pure (ps.zip us)) : DefC K mg x st ps c :=
  ⟨f, oc, od, kV, doc, pm, an, ct, osl, l, hc, k, PySem.W.mg_of X G a, (fun_mk l hc k).binds hb⟩
theorem mkFun {x : Str} {st : Stmt} {fa f : Addr} {oc : Value} {od an : Option Addr} {osl : Array (Option Value)} {kV doc pm cdv ct : Value} (X : K.In h) (G : h.Ns mainGlobals mg) (hfa : mg x = some (.ref fa)) (a : PySem.W.nsIn K mainGlobals x = some (some (.ref f)))
    (l : K.lookup f = some ⟨oc, od, .func (PySem.W.fnOf x x (defArgs st) (defBody st) (defScope st) .none kV doc pm an cdv ct), osl⟩) (c : PySem.W.codeIn K cdv x = true) (k : PySem.W.keepIn K (.ref f) = true) :
    Fun K x x st fa (PySem.W.fnOf x x (defArgs st) (defBody st) (defScope st) .none kV doc pm an cdv ct) := by
  have e := hfa.symm.trans (PySem.W.mg_of X G a)
  cases e
  exact fun_mk l c k
theorem mkBi (X : K.In h) (G : h.Ns mainGlobals mg) (z0 : PySem.W.nsIn K mainGlobals "isinstance" = some none) (z1 : PySem.W.nsIn K mainGlobals "bool" = some none) (z2 : PySem.W.nsIn K mainGlobals "int" = some none) (z3 : PySem.W.nsIn K mainGlobals "tuple" = some none) (z4 : PySem.W.nsIn K mainGlobals "list" = some none) (z5 : PySem.W.nsIn K mainGlobals "str" = some none) (z6 : PySem.W.nsIn K mainGlobals "dict" = some none) (z7 : PySem.W.nsIn K mainGlobals "set" = some none) (z8 : PySem.W.nsIn K mainGlobals "len" = some none) (z9 : PySem.W.nsIn K mainGlobals "all" = some none) (z10 : PySem.W.nsIn K mainGlobals "zip" = some none) (z11 : PySem.W.nsIn K mainGlobals "range" = some none) (z12 : PySem.W.nsIn K mainGlobals "sorted" = some none) (z13 : PySem.W.nsIn K mainGlobals "enumerate" = some none) (z14 : PySem.W.nsIn K mainGlobals "min" = some none) (z15 : PySem.W.nsIn K mainGlobals "max" = some none) (z16 : PySem.W.nsIn K mainGlobals "sum" = some none) (z17 : PySem.W.nsIn K mainGlobals "abs" = some none) : Bi mg :=
  ⟨PySem.W.mg_none_of X G z0, PySem.W.mg_none_of X G z1, PySem.W.mg_none_of X G z2, PySem.W.mg_none_of X G z3, PySem.W.mg_none_of X G z4, PySem.W.mg_none_of X G z5, PySem.W.mg_none_of X G z6, PySem.W.mg_none_of X G z7, PySem.W.mg_none_of X G z8, PySem.W.mg_none_of X G z9, PySem.W.mg_none_of X G z10, PySem.W.mg_none_of X G z11, PySem.W.mg_none_of X G z12, PySem.W.mg_none_of X G z13, PySem.W.mg_none_of X G z14, PySem.W.mg_none_of X G z15, PySem.W.mg_none_of X G z16, PySem.W.mg_none_of X G z17⟩
theorem mkCs {t1 t2 : Tok} (X : K.In h) (G : h.Ns mainGlobals mg) (m1 : PySem.W.nsIn K mainGlobals "MOST_FIELDS" = some (some (.int 60 t1))) (m2 : PySem.W.nsIn K mainGlobals "MOST_BREADTH" = some (some (.int 10 t2))) : Cs mg :=
  ⟨⟨_, PySem.W.mg_of X G m1, _, rfl⟩, ⟨_, PySem.W.mg_of X G m2, _, rfl⟩⟩
theorem law_at {fa c PT : Addr} {fd : FuncData} (D_is_int : Def K mg "is_int" (top 6) ["value"])
    (D_is_in : Def K mg "is_in" (top 7) ["value", "least", "most"])
    (D_is_pair : Def K mg "is_pair" (top 8) ["value", "size"])
    (D_has_form : Def K mg "has_form" (top 9) ["value"])
    (D_nears_of : Def K mg "nears_of" (top 10) ["web"])
    (D_reach_of : Def K mg "reach_of" (top 11) ["web", "first"])
    (D_odd_hedge : Def K mg "odd_hedge" (top 12) ["web"])
    (D_bar_of : Def K mg "bar_of" (top 13) ["web"])
    (D_need_web : Def K mg "need_web" (top 14) ["value"])
    (D_breadth_of : Def K mg "breadth_of" (top 15) ["web"])
    (D_highest_of : Def K mg "highest_of" (top 17) ["web", "told"])
    (D_lowest_of : Def K mg "lowest_of" (top 18) ["web", "told"])
    (D_need_narrow : Def K mg "need_narrow" (top 21) ["web"])
    (D_kept_at : Def K mg "kept_at" (top 22) ["nears", "last"])
    (D_choices_at : Def K mg "choices_at" (top 23) ["nears", "field", "here", "low", "high"])
    (D_tables_of : Def K mg "tables_of" (top 24) ["web", "low", "high"])
    (D_number_within : Def K mg "number_within" (top 25) ["web", "low", "high"])
    (D_common : Def K mg "common" (top 27) ["one", "other"])
    (D_lowered : Def K mg "lowered" (top 28) ["above", "low"])
    (D_bounds_from : Def K mg "bounds_from" (top 29) ["web", "field"])
    (D_number_of_span : Def K mg "number_of_span" (top 30) ["web", "span"])
    (D_span_tally : Def K mg "span_tally" (top 31) ["web"])
    (D_width_of : Def K mg "width_of" (top 32) ["web"])
    (D_mean_span : Def K mg "mean_span" (top 33) ["web"])
    (D_lowest_tally : Def K mg "lowest_tally" (top 34) ["web"])
    (D_law_taken : Def K mg "_law_taken" (top 36) ["_law_row", "_law_many"])
    (D_law_pick : Def K mg "_law_pick" (top 37) ["_law_row", "_law_things"])
    (D_law_alike : Def K mg "_law_alike" (top 38) ["_law_found", "_law_due"])
    (D_law_mixed : Def K mg "_law_mixed" (top 39) ["_law_row", "_law_some"])
    (D_law_tree : Def K mg "_law_tree" (top 40) ["_law_row", "_law_size"])
    (D_law_web : Def K mg "_law_web" (top 41) ["_law_row", "_law_most"])
    (D_law_nears : Def K mg "_law_nears" (top 42) ["_law_web_here"])
    (D_law_far : Def K mg "_law_far" (top 43) ["_law_web_here", "_law_first"])
    (D_law_all : DefC K mg "_law_all" (top 44) ["_law_web_here", "_law_field", "_law_height"] c)
    (D_law_common : Def K mg "_law_common" (top 45) ["_law_one", "_law_other"])
    (D_law_lowered : Def K mg "_law_lowered" (top 46) ["_law_above", "_law_low"])
    (F : Fun K "law" "law" (top 47) fa fd) (B : Bi mg) (C : Cs mg) (hP : h.get? PT = some { cls := .none, data := .fields #[] }) (nT : K.lookup PT = none) (hC : PySem.W.CodeHd h c PT) :
    LamX.LawAtS PySem.Challenge.rw_terraces_k35_whole_spans w K L2.CX0 9 63 "_law_script" mg fa h := by
  have F' := F
  obtain ⟨oc, od, kV, doc, pm, an, cdv, ct, osl, rfl, _, _⟩ := F'.ex
  refine ⟨PySem.W.fnOf "law" "law" (defArgs (top 47)) (defBody (top 47)) (defScope (top 47)) .none kV doc pm an cdv ct, [(c, PT)], spLaw K PT, fun p hp => ?_, fun p hp => ?_, fun p hp => ?_, fun s u => .of_eq rfl, fun H a ns _ _ hT hS => ⟨a, ns, rfl, hS, fun p hp => ?_, fun _ => rfl⟩, fun base _ _ hTB => ?_⟩
  · rw [List.mem_singleton.mp hp]; exact hP
  · rw [List.mem_singleton.mp hp]; exact nT
  · rw [List.mem_singleton.mp hp]; exact hC
  · rw [List.mem_singleton.mp hp]; exact LamX.TabS.nil (hT _ (List.mem_singleton.mpr rfl))
  have TB := hTB (c, PT) (List.mem_singleton.mpr rfl)
  have k_law_taken := c_law_taken (P := PySem.Challenge.rw_terraces_k35_whole_spans.prog) (w := w) (base := base) D_law_taken B
  have k_law_mixed := c_law_mixed (P := PySem.Challenge.rw_terraces_k35_whole_spans.prog) (w := w) (base := base) D_law_mixed B k_law_taken
  have k_law_pick := c_law_pick (P := PySem.Challenge.rw_terraces_k35_whole_spans.prog) (w := w) (base := base) D_law_pick B k_law_taken
  have k_law_tree := c_law_tree (P := PySem.Challenge.rw_terraces_k35_whole_spans.prog) (w := w) (base := base) D_law_tree B k_law_mixed k_law_pick k_law_taken
  have k_law_nears := c_law_nears (P := PySem.Challenge.rw_terraces_k35_whole_spans.prog) (w := w) (base := base) D_law_nears B
  have k_law_far := c_law_far (P := PySem.Challenge.rw_terraces_k35_whole_spans.prog) (w := w) (base := base) D_law_far B k_law_nears
  have k_law_web := c_law_web (P := PySem.Challenge.rw_terraces_k35_whole_spans.prog) (w := w) (base := base) D_law_web B k_law_taken k_law_tree k_law_far k_law_pick
  have k_law_all := c_law_all (P := PySem.Challenge.rw_terraces_k35_whole_spans.prog) (w := w) (base := base) D_law_all B TB k_law_nears k_law_far
  have k_law_alike0 := c_law_alike0 (P := PySem.Challenge.rw_terraces_k35_whole_spans.prog) (w := w) (base := base) D_law_alike B
  have k_law_alike1 := c_law_alikeS (d := 0) D_law_alike B k_law_alike0
  have k_law_alike := c_law_alikeS (d := 1) D_law_alike B k_law_alike1
  have k_is_int := c_is_int (P := PySem.Challenge.rw_terraces_k35_whole_spans.prog) (w := w) (base := base) D_is_int B
  have k_is_in := c_is_in (P := PySem.Challenge.rw_terraces_k35_whole_spans.prog) (w := w) (base := base) D_is_in B k_is_int
  have k_is_pair := c_is_pair (P := PySem.Challenge.rw_terraces_k35_whole_spans.prog) (w := w) (base := base) D_is_pair B k_is_in
  have k_has_form := c_has_form (P := PySem.Challenge.rw_terraces_k35_whole_spans.prog) (w := w) (base := base) D_has_form B C k_is_in k_is_pair
  have k_nears_of := c_nears_of (P := PySem.Challenge.rw_terraces_k35_whole_spans.prog) (w := w) (base := base) D_nears_of B
  have k_reach_of := c_reach_of (P := PySem.Challenge.rw_terraces_k35_whole_spans.prog) (w := w) (base := base) D_reach_of B k_nears_of
  have k_odd_hedge := c_odd_hedge (P := PySem.Challenge.rw_terraces_k35_whole_spans.prog) (w := w) (base := base) D_odd_hedge B k_reach_of
  have k_bar_of := c_bar_of (P := PySem.Challenge.rw_terraces_k35_whole_spans.prog) (w := w) (base := base) D_bar_of B k_reach_of k_odd_hedge
  have k_need_web := c_need_web (P := PySem.Challenge.rw_terraces_k35_whole_spans.prog) (w := w) (base := base) D_need_web k_has_form k_bar_of
  have k_breadth_of := c_breadth_of (P := PySem.Challenge.rw_terraces_k35_whole_spans.prog) (w := w) (base := base) D_breadth_of B k_nears_of
  have k_need_narrow := c_need_narrow (P := PySem.Challenge.rw_terraces_k35_whole_spans.prog) (w := w) (base := base) D_need_narrow C k_need_web k_breadth_of
  have k_width_of := c_width_of (P := PySem.Challenge.rw_terraces_k35_whole_spans.prog) (w := w) (base := base) D_width_of B k_reach_of
  have k_kept_at := c_kept_at (P := PySem.Challenge.rw_terraces_k35_whole_spans.prog) (w := w) (base := base) D_kept_at B
  have k_choices_at := c_choices_at (P := PySem.Challenge.rw_terraces_k35_whole_spans.prog) (w := w) (base := base) D_choices_at B
  have k_tables_of := c_tables_of (P := PySem.Challenge.rw_terraces_k35_whole_spans.prog) (w := w) (base := base) D_tables_of B k_nears_of k_kept_at k_choices_at
  have k_number_within := c_number_within (P := PySem.Challenge.rw_terraces_k35_whole_spans.prog) (w := w) (base := base) D_number_within B k_tables_of
  have k_number_of_span := c_number_of_span (P := PySem.Challenge.rw_terraces_k35_whole_spans.prog) (w := w) (base := base) D_number_of_span B k_reach_of k_number_within
  have k_span_tally := c_span_tally (P := PySem.Challenge.rw_terraces_k35_whole_spans.prog) (w := w) (base := base) D_span_tally B k_need_narrow k_width_of k_number_of_span
  have k_law_common := c_law_common (P := PySem.Challenge.rw_terraces_k35_whole_spans.prog) (w := w) (base := base) D_law_common B
  have k_law_lowered := c_law_lowered (P := PySem.Challenge.rw_terraces_k35_whole_spans.prog) (w := w) (base := base) D_law_lowered k_law_common
  have k_common := c_common (P := PySem.Challenge.rw_terraces_k35_whole_spans.prog) (w := w) (base := base) D_common B
  have k_lowered := c_lowered (P := PySem.Challenge.rw_terraces_k35_whole_spans.prog) (w := w) (base := base) D_lowered k_common
  have k_mean_span := c_mean_span (P := PySem.Challenge.rw_terraces_k35_whole_spans.prog) (w := w) (base := base) D_mean_span B k_span_tally k_lowered
  have k_highest_of := c_highest_of (P := PySem.Challenge.rw_terraces_k35_whole_spans.prog) (w := w) (base := base) D_highest_of B k_reach_of
  have k_lowest_of := c_lowest_of (P := PySem.Challenge.rw_terraces_k35_whole_spans.prog) (w := w) (base := base) D_lowest_of B k_highest_of
  have k_bounds_from := c_bounds_from (P := PySem.Challenge.rw_terraces_k35_whole_spans.prog) (w := w) (base := base) D_bounds_from k_lowest_of k_highest_of
  have k_lowest_tally := c_lowest_tally (P := PySem.Challenge.rw_terraces_k35_whole_spans.prog) (w := w) (base := base) D_lowest_tally B k_need_narrow k_bounds_from k_number_within
  exact c_law F B k_law_web k_law_all k_law_alike k_span_tally k_law_lowered k_mean_span k_lowest_tally
end
end Tr
open PySem PySem.W PyProof.Rows
set_option maxHeartbeats 0 in
theorem PySem.Challenge.cw_terraces_k35_whole_spans_holds : PySem.Challenge.rw_terraces_k35_whole_spans.Holds := by
  w_on; o_law; k_head; (case hw => w_witness2)
  k_fill
  refine LamX.walk_ofTs (l := PySem.Challenge.rw_terraces_k35_whole_spans) (n := 63) (k := 9) (x := "_law_script") (CX := fun _ => L2.CX0) rfl (by decide) rfl ⟨rfl, by decide, by decide⟩ (fun w h Y => PySem.W.km_in_of Y) ?F (fun _ _ _ _ _ h => h)
  case F =>
    intro w mg fa h Y KX G hmg
    have hT := PySem.W.km_tabs_of Y
    refine' Tr.law_at ?D6 ?D7 ?D8 ?D9 ?D10 ?D11 ?D12 ?D13 ?D14 ?D15 ?D17 ?D18 ?D21 ?D22 ?D23 ?D24 ?D25 ?D27 ?D28 ?D29 ?D30 ?D31 ?D32 ?D33 ?D34 ?D36 ?D37 ?D38 ?D39 ?D40 ?D41 ?D42 ?D43 ?D44 ?D45 ?D46 ?QF ?QB ?QC (hT _ (List.mem_cons_self ..)) ?nT (PySem.W.codeHd_of_K KX ?hC)
    (case D6 => refine' Tr.mkDef KX G ?a ?l ?c ?k (fun _ _ _ _ _ _ us hl => match us, hl with | [_], _ => rfl); (case a => k_is); (case l => k_is); (case c => k_is); (case k => k_is))
    (case D7 => refine' Tr.mkDef KX G ?a ?l ?c ?k (fun _ _ _ _ _ _ us hl => match us, hl with | [_, _, _], _ => rfl); (case a => k_is); (case l => k_is); (case c => k_is); (case k => k_is))
    (case D8 => refine' Tr.mkDef KX G ?a ?l ?c ?k (fun _ _ _ _ _ _ us hl => match us, hl with | [_, _], _ => rfl); (case a => k_is); (case l => k_is); (case c => k_is); (case k => k_is))
    (case D9 => refine' Tr.mkDef KX G ?a ?l ?c ?k (fun _ _ _ _ _ _ us hl => match us, hl with | [_], _ => rfl); (case a => k_is); (case l => k_is); (case c => k_is); (case k => k_is))
    (case D10 => refine' Tr.mkDef KX G ?a ?l ?c ?k (fun _ _ _ _ _ _ us hl => match us, hl with | [_], _ => rfl); (case a => k_is); (case l => k_is); (case c => k_is); (case k => k_is))
    (case D11 => refine' Tr.mkDef KX G ?a ?l ?c ?k (fun _ _ _ _ _ _ us hl => match us, hl with | [_, _], _ => rfl); (case a => k_is); (case l => k_is); (case c => k_is); (case k => k_is))
    (case D12 => refine' Tr.mkDef KX G ?a ?l ?c ?k (fun _ _ _ _ _ _ us hl => match us, hl with | [_], _ => rfl); (case a => k_is); (case l => k_is); (case c => k_is); (case k => k_is))
    (case D13 => refine' Tr.mkDef KX G ?a ?l ?c ?k (fun _ _ _ _ _ _ us hl => match us, hl with | [_], _ => rfl); (case a => k_is); (case l => k_is); (case c => k_is); (case k => k_is))
    (case D14 => refine' Tr.mkDef KX G ?a ?l ?c ?k (fun _ _ _ _ _ _ us hl => match us, hl with | [_], _ => rfl); (case a => k_is); (case l => k_is); (case c => k_is); (case k => k_is))
    (case D15 => refine' Tr.mkDef KX G ?a ?l ?c ?k (fun _ _ _ _ _ _ us hl => match us, hl with | [_], _ => rfl); (case a => k_is); (case l => k_is); (case c => k_is); (case k => k_is))
    (case D17 => refine' Tr.mkDef KX G ?a ?l ?c ?k (fun _ _ _ _ _ _ us hl => match us, hl with | [_, _], _ => rfl); (case a => k_is); (case l => k_is); (case c => k_is); (case k => k_is))
    (case D18 => refine' Tr.mkDef KX G ?a ?l ?c ?k (fun _ _ _ _ _ _ us hl => match us, hl with | [_, _], _ => rfl); (case a => k_is); (case l => k_is); (case c => k_is); (case k => k_is))
    (case D21 => refine' Tr.mkDef KX G ?a ?l ?c ?k (fun _ _ _ _ _ _ us hl => match us, hl with | [_], _ => rfl); (case a => k_is); (case l => k_is); (case c => k_is); (case k => k_is))
    (case D22 => refine' Tr.mkDef KX G ?a ?l ?c ?k (fun _ _ _ _ _ _ us hl => match us, hl with | [_, _], _ => rfl); (case a => k_is); (case l => k_is); (case c => k_is); (case k => k_is))
    (case D23 => refine' Tr.mkDef KX G ?a ?l ?c ?k (fun _ _ _ _ _ _ us hl => match us, hl with | [_, _, _, _, _], _ => rfl); (case a => k_is); (case l => k_is); (case c => k_is); (case k => k_is))
    (case D24 => refine' Tr.mkDef KX G ?a ?l ?c ?k (fun _ _ _ _ _ _ us hl => match us, hl with | [_, _, _], _ => rfl); (case a => k_is); (case l => k_is); (case c => k_is); (case k => k_is))
    (case D25 => refine' Tr.mkDef KX G ?a ?l ?c ?k (fun _ _ _ _ _ _ us hl => match us, hl with | [_, _, _], _ => rfl); (case a => k_is); (case l => k_is); (case c => k_is); (case k => k_is))
    (case D27 => refine' Tr.mkDef KX G ?a ?l ?c ?k (fun _ _ _ _ _ _ us hl => match us, hl with | [_, _], _ => rfl); (case a => k_is); (case l => k_is); (case c => k_is); (case k => k_is))
    (case D28 => refine' Tr.mkDef KX G ?a ?l ?c ?k (fun _ _ _ _ _ _ us hl => match us, hl with | [_, _], _ => rfl); (case a => k_is); (case l => k_is); (case c => k_is); (case k => k_is))
    (case D29 => refine' Tr.mkDef KX G ?a ?l ?c ?k (fun _ _ _ _ _ _ us hl => match us, hl with | [_, _], _ => rfl); (case a => k_is); (case l => k_is); (case c => k_is); (case k => k_is))
    (case D30 => refine' Tr.mkDef KX G ?a ?l ?c ?k (fun _ _ _ _ _ _ us hl => match us, hl with | [_, _], _ => rfl); (case a => k_is); (case l => k_is); (case c => k_is); (case k => k_is))
    (case D31 => refine' Tr.mkDef KX G ?a ?l ?c ?k (fun _ _ _ _ _ _ us hl => match us, hl with | [_], _ => rfl); (case a => k_is); (case l => k_is); (case c => k_is); (case k => k_is))
    (case D32 => refine' Tr.mkDef KX G ?a ?l ?c ?k (fun _ _ _ _ _ _ us hl => match us, hl with | [_], _ => rfl); (case a => k_is); (case l => k_is); (case c => k_is); (case k => k_is))
    (case D33 => refine' Tr.mkDef KX G ?a ?l ?c ?k (fun _ _ _ _ _ _ us hl => match us, hl with | [_], _ => rfl); (case a => k_is); (case l => k_is); (case c => k_is); (case k => k_is))
    (case D34 => refine' Tr.mkDef KX G ?a ?l ?c ?k (fun _ _ _ _ _ _ us hl => match us, hl with | [_], _ => rfl); (case a => k_is); (case l => k_is); (case c => k_is); (case k => k_is))
    (case D36 => refine' Tr.mkDef KX G ?a ?l ?c ?k (fun _ _ _ _ _ _ us hl => match us, hl with | [_, _], _ => rfl); (case a => k_is); (case l => k_is); (case c => k_is); (case k => k_is))
    (case D37 => refine' Tr.mkDef KX G ?a ?l ?c ?k (fun _ _ _ _ _ _ us hl => match us, hl with | [_, _], _ => rfl); (case a => k_is); (case l => k_is); (case c => k_is); (case k => k_is))
    (case D38 => refine' Tr.mkDef KX G ?a ?l ?c ?k (fun _ _ _ _ _ _ us hl => match us, hl with | [_, _], _ => rfl); (case a => k_is); (case l => k_is); (case c => k_is); (case k => k_is))
    (case D39 => refine' Tr.mkDef KX G ?a ?l ?c ?k (fun _ _ _ _ _ _ us hl => match us, hl with | [_, _], _ => rfl); (case a => k_is); (case l => k_is); (case c => k_is); (case k => k_is))
    (case D40 => refine' Tr.mkDef KX G ?a ?l ?c ?k (fun _ _ _ _ _ _ us hl => match us, hl with | [_, _], _ => rfl); (case a => k_is); (case l => k_is); (case c => k_is); (case k => k_is))
    (case D41 => refine' Tr.mkDef KX G ?a ?l ?c ?k (fun _ _ _ _ _ _ us hl => match us, hl with | [_, _], _ => rfl); (case a => k_is); (case l => k_is); (case c => k_is); (case k => k_is))
    (case D42 => refine' Tr.mkDef KX G ?a ?l ?c ?k (fun _ _ _ _ _ _ us hl => match us, hl with | [_], _ => rfl); (case a => k_is); (case l => k_is); (case c => k_is); (case k => k_is))
    (case D43 => refine' Tr.mkDef KX G ?a ?l ?c ?k (fun _ _ _ _ _ _ us hl => match us, hl with | [_, _], _ => rfl); (case a => k_is); (case l => k_is); (case c => k_is); (case k => k_is))
    (case D44 => refine' Tr.mkDefC KX G ?a ?l ?c ?k (fun _ _ _ _ _ _ us hl => match us, hl with | [_, _, _], _ => rfl); (case a => k_is); (case l => k_is); (case c => k_is); (case k => k_is))
    (case D45 => refine' Tr.mkDef KX G ?a ?l ?c ?k (fun _ _ _ _ _ _ us hl => match us, hl with | [_, _], _ => rfl); (case a => k_is); (case l => k_is); (case c => k_is); (case k => k_is))
    (case D46 => refine' Tr.mkDef KX G ?a ?l ?c ?k (fun _ _ _ _ _ _ us hl => match us, hl with | [_, _], _ => rfl); (case a => k_is); (case l => k_is); (case c => k_is); (case k => k_is))
    (case QF => refine' Tr.mkFun KX G hmg ?a ?l ?c ?k; (case a => k_is); (case l => k_is); (case c => k_is); (case k => k_is))
    (case QB => refine' Tr.mkBi KX G ?z0 ?z1 ?z2 ?z3 ?z4 ?z5 ?z6 ?z7 ?z8 ?z9 ?z10 ?z11 ?z12 ?z13 ?z14 ?z15 ?z16 ?z17; (case z0 => k_is); (case z1 => k_is); (case z2 => k_is); (case z3 => k_is); (case z4 => k_is); (case z5 => k_is); (case z6 => k_is); (case z7 => k_is); (case z8 => k_is); (case z9 => k_is); (case z10 => k_is); (case z11 => k_is); (case z12 => k_is); (case z13 => k_is); (case z14 => k_is); (case z15 => k_is); (case z16 => k_is); (case z17 => k_is))
    (case QC => refine' Tr.mkCs KX G ?m1 ?m2; (case m1 => k_is); (case m2 => k_is))
    (case nT => kernel_rfl)
    (case hC => kernel_rfl)
