import PyProof.Rows.All
import Wide.All
import OpenK.AllK
import Wide.FinOn
import PySem.Challenge.RW_pq0536_01
set_option Elab.async false
set_option maxRecDepth 100000
set_option maxHeartbeats 4000000
section B1_part
open PySem PySem.Calls PyProof.Rows
namespace Mine

/-- what a value stands for -/
inductive AV where
  | int (i : Int) | bool (b : Bool) | none | fn (a : Addr) | line
  | rng (a b c : Int)
  | list (l : List AV) | tup (l : List AV)

/-- the values `vs` stand for the trees `ts` in the heap, away from the addresses X -/
inductive RVs (ln : Option Addr) (X : List Addr) (h : Heap) : List Value → List AV → Prop
  | nil : RVs ln X h [] []
  | int {i t vs ts} : RVs ln X h vs ts → RVs ln X h (.int i t :: vs) (.int i :: ts)
  | bool {b vs ts} : RVs ln X h vs ts → RVs ln X h (.bool b :: vs) (.bool b :: ts)
  | nun {vs ts} : RVs ln X h vs ts → RVs ln X h (.none :: vs) (.none :: ts)
  | fn {a vs ts} : RVs ln X h vs ts → RVs ln X h (.ref a :: vs) (.fn a :: ts)
  | line {a vs ts} : ln = some a → RVs ln X h vs ts → RVs ln X h (.ref a :: vs) (.line :: ts)
  | rng {r a b c t u v vs ts} : r ∉ X → IsRange h r a b c t u v → RVs ln X h vs ts → RVs ln X h (.ref r :: vs) (.rng a b c :: ts)
  | list {a us ss vs ts} : a ∉ X → h.IsList a (List.toArray us) → RVs ln X h us ss → RVs ln X h vs ts → RVs ln X h (.ref a :: vs) (.list ss :: ts)
  | tup {a us n ss vs ts} : a ∉ X → IsT h a (List.toArray us) n → RVs ln X h us ss → RVs ln X h vs ts → RVs ln X h (.ref a :: vs) (.tup ss :: ts)
abbrev RV (ln : Option Addr) (X : List Addr) (h : Heap) (v : Value) (t : AV) : Prop := RVs ln X h [v] [t]

noncomputable def isData (o : Obj) : Bool := match o.data with | .seq _ _ => true | .fields _ => true | _ => false

/-- the data objects away from X are kept -/
noncomputable def Sq (X : List Addr) (h h' : Heap) : Prop := ∀ a o, a ∉ X → isData o = true → h.get? a = some o → h'.get? a = some o

theorem RVs.mono {ln X X' h h' vs ts} (hk : Sq X h h') (hX : ∀ a ∈ X', a ∈ X ∨ h.get? a = none) (r : RVs ln X h vs ts) : RVs ln X' h' vs ts := by
  have out : ∀ {a o}, a ∉ X → h.get? a = some o → a ∉ X' := fun ha e hm => by
    rcases hX _ hm with q | q
    · exact ha q
    · rw [q] at e; cases e
  induction r with
  | nil => exact .nil
  | int _ ih => exact .int ih
  | bool _ ih => exact .bool ih
  | nun _ ih => exact .nun ih
  | fn _ ih => exact .fn ih
  | line e _ ih => exact .line e ih
  | rng hx e _ ih => exact .rng (out hx e) (hk _ _ hx rfl e) ih
  | list hx e _ _ ih1 ih2 =>
    obtain ⟨o, e1, e2, n, e3⟩ := e
    exact .list (out hx e1) ⟨o, hk _ _ hx (by unfold isData; rw [e3]) e1, e2, n, e3⟩ ih1 ih2
  | tup hx e _ _ ih1 ih2 => exact .tup (out hx e) (hk _ _ hx rfl e) ih1 ih2
theorem RVs.keep {ln X h h' vs ts} (hk : Sq X h h') (r : RVs ln X h vs ts) : RVs ln X h' vs ts := r.mono hk fun _ h => .inl h

section
variable {ln : Option Addr} {X : List Addr} {h : Heap} {v : Value} {t : AV} {vs : List Value} {ts : List AV}
theorem RVs.cons (r : RV ln X h v t) (q : RVs ln X h vs ts) : RVs ln X h (v :: vs) (t :: ts) := by
  cases r with
  | int _ => exact .int q
  | bool _ => exact .bool q
  | nun _ => exact .nun q
  | fn _ => exact .fn q
  | line e _ => exact .line e q
  | rng a b _ => exact .rng a b q
  | list a b c _ => exact .list a b c q
  | tup a b c _ => exact .tup a b c q
theorem RVs.head (r : RVs ln X h (v :: vs) (t :: ts)) : RV ln X h v t := by
  cases r with
  | int _ => exact .int .nil
  | bool _ => exact .bool .nil
  | nun _ => exact .nun .nil
  | fn _ => exact .fn .nil
  | line e _ => exact .line e .nil
  | rng a b _ => exact .rng a b .nil
  | list a b c _ => exact .list a b c .nil
  | tup a b c _ => exact .tup a b c .nil
theorem RVs.tail (r : RVs ln X h (v :: vs) (t :: ts)) : RVs ln X h vs ts := by
  cases r <;> assumption
theorem RVs.len (r : RVs ln X h vs ts) : vs.length = ts.length := by
  induction r with
  | nil => rfl
  | int _ ih | bool _ ih | nun _ ih | fn _ ih | line _ _ ih | rng _ _ _ ih | list _ _ _ _ _ ih | tup _ _ _ _ _ ih => simp [ih]
theorem RVs.cons_inv {ts' : List AV} (r : RVs ln X h (v :: vs) ts') : ∃ t ts, ts' = t :: ts ∧ RV ln X h v t ∧ RVs ln X h vs ts := by
  cases ts' with
  | nil => cases r
  | cons t ts => exact ⟨t, ts, rfl, r.head, r.tail⟩
theorem RVs.get (r : RVs ln X h vs ts) : ∀ {i : Nat} {v : Value}, vs[i]? = some v → ∃ t, ts[i]? = some t ∧ RV ln X h v t := by
  induction vs generalizing ts with
  | nil => intro i v e; simp at e
  | cons u us ih =>
    obtain ⟨t, ts', rfl, r1, r2⟩ := r.cons_inv
    intro i v e
    cases i with
    | zero => simp at e; subst e; exact ⟨t, rfl, r1⟩
    | succ i => simp at e; obtain ⟨t', e', r'⟩ := ih r2 e; exact ⟨t', by simpa using e', r'⟩
theorem RVs.getT (r : RVs ln X h vs ts) {i : Nat} {t : AV} (e : ts[i]? = some t) : ∃ v, vs[i]? = some v ∧ RV ln X h v t := by
  have hl := r.len
  have hi : i < vs.length := by rw [hl]; exact (List.getElem?_eq_some_iff.mp e).1
  obtain ⟨t', e', r'⟩ := r.get (List.getElem?_eq_getElem hi)
  rw [e] at e'; cases e'
  exact ⟨_, List.getElem?_eq_getElem hi, r'⟩
theorem RVs.app {us ss} (r : RVs ln X h vs ts) (q : RVs ln X h us ss) : RVs ln X h (vs ++ us) (ts ++ ss) := by
  induction vs generalizing ts with
  | nil => cases r; exact q
  | cons u us' ih =>
    obtain ⟨t, ts', rfl, r1, r2⟩ := r.cons_inv
    exact RVs.cons r1 (ih r2)
theorem RVs.dropTake (r : RVs ln X h vs ts) : (∀ n, RVs ln X h (vs.drop n) (ts.drop n)) ∧ ∀ n, RVs ln X h (vs.take n) (ts.take n) := by
  induction vs generalizing ts with
  | nil => cases r; simp; exact .nil
  | cons u us' ih =>
    obtain ⟨t, ts', rfl, r1, r2⟩ := r.cons_inv
    constructor
    · intro n; cases n with
      | zero => exact RVs.cons r1 r2
      | succ n => exact (ih r2).1 n
    · intro n; cases n with
      | zero => exact .nil
      | succ n => exact RVs.cons r1 ((ih r2).2 n)
theorem RVs.set (r : RVs ln X h vs ts) (q : RV ln X h v t) (i : Nat) : RVs ln X h (vs.set i v) (ts.set i t) := by
  induction vs generalizing ts i with
  | nil => cases r; exact .nil
  | cons u us' ih =>
    obtain ⟨t, ts', rfl, r1, r2⟩ := r.cons_inv
    cases i with
    | zero => exact RVs.cons q r2
    | succ i => exact RVs.cons r1 (ih r2 i)
theorem RVs.rev (r : RVs ln X h vs ts) : RVs ln X h vs.reverse ts.reverse := by
  induction vs generalizing ts with
  | nil => cases r; exact .nil
  | cons u us' ih =>
    obtain ⟨t, ts', rfl, r1, r2⟩ := r.cons_inv
    rw [List.reverse_cons, List.reverse_cons]
    exact (ih r2).app r1
-- the shapes
theorem RV.int_inv {i} (r : RV ln X h v (.int i)) : ∃ t, v = .int i t := by cases r; exact ⟨_, rfl⟩
theorem RV.bool_inv {b} (r : RV ln X h v (.bool b)) : v = .bool b := by cases r; rfl
theorem RV.none_inv (r : RV ln X h v .none) : v = .none := by cases r; rfl
theorem RV.fn_inv {a} (r : RV ln X h v (.fn a)) : v = .ref a := by cases r; rfl
theorem RV.line_inv (r : RV ln X h v .line) : ∃ a, v = .ref a ∧ ln = some a := by cases r; exact ⟨_, rfl, ‹_›⟩
theorem RV.rng_inv {a b c} (r : RV ln X h v (.rng a b c)) : ∃ x t u w, v = .ref x ∧ x ∉ X ∧ IsRange h x a b c t u w := by cases r; exact ⟨_, _, _, _, rfl, ‹_›, ‹_›⟩
theorem RV.list_inv {ss} (r : RV ln X h v (.list ss)) : ∃ a us, v = .ref a ∧ a ∉ X ∧ h.IsList a (List.toArray us) ∧ RVs ln X h us ss := by cases r; exact ⟨_, _, rfl, ‹_›, ‹_›, ‹_›⟩
theorem RV.tup_inv {ss} (r : RV ln X h v (.tup ss)) : ∃ a us n, v = .ref a ∧ a ∉ X ∧ IsT h a (List.toArray us) n ∧ RVs ln X h us ss := by cases r; exact ⟨_, _, _, rfl, ‹_›, ‹_›, ‹_›⟩
end

/-- the law's own line: a list of a list of ints and a counter -/
noncomputable def LineOk (X : List Addr) (h : Heap) (l : Addr) : Prop :=
  ∃ xa k t vs is, h.IsList l #[.ref xa, .int k t] ∧ xa ∉ X ∧ h.IsList xa (List.toArray vs) ∧ IntsAre vs is ∧ is.length ≤ 40 ∧ 0 ≤ k

/-- what an expression's run keeps -/
structure KpH (ln : Option Addr) (h h' : Heap) : Prop where
  keep : ∀ b o, ln ≠ some b → h.get? b = some o → h'.get? b = some o
  line : ∀ l Y, ln = some l → LineOk Y h l → LineOk Y h' l
theorem KpH.refl {ln h} : KpH ln h h := ⟨fun _ _ _ e => e, fun _ _ _ e => e⟩
theorem KpH.trans {ln h h' h''} (a : KpH ln h h') (b : KpH ln h' h'') : KpH ln h h'' :=
  ⟨fun c o n e => b.keep c o n (a.keep c o n e), fun l Y e o => b.line l Y e (a.line l Y e o)⟩

noncomputable def Kp (ln : Option Addr) (s s' : Shared) : Prop := ∃ h' tk, s' = { s with heap := h', toks := tk } ∧ KpH ln s.heap h'
theorem Kp.refl {ln s} : Kp ln s s := ⟨s.heap, s.toks, rfl, .refl⟩
theorem Kp.tok {ln s} (n : Nat) : Kp ln s { s with toks := n } := ⟨s.heap, n, rfl, .refl⟩
theorem Kp.trans {ln s s' s''} (a : Kp ln s s') (b : Kp ln s' s'') : Kp ln s s'' := by
  obtain ⟨h, k, rfl, x⟩ := a
  obtain ⟨h', k', rfl, y⟩ := b
  exact ⟨h', k', rfl, x.trans y⟩
theorem Kp.kp {ln s s'} (a : Kp ln s s') : KpH ln s.heap s'.heap := by obtain ⟨h, k, rfl, x⟩ := a; exact x

/-- growth alone keeps all -/
theorem LineOk.grow {X h h' l} (hk : ∀ b o, h.get? b = some o → h'.get? b = some o) (x : LineOk X h l) : LineOk X h' l := by
  obtain ⟨xa, k, t, vs, is, a, b, c, d⟩ := x
  exact ⟨xa, k, t, vs, is, a.at fun o => hk _ o, b, c.at fun o => hk _ o, d⟩
theorem KpH.grow {ln h h'} (hk : ∀ b o, h.get? b = some o → h'.get? b = some o) : KpH ln h h' := ⟨fun b o _ e => hk b o e, fun _ _ _ x => x.grow hk⟩
theorem Kp.grow {ln s h' tk} (hk : ∀ b o, s.heap.get? b = some o → h'.get? b = some o) : Kp ln s { s with heap := h', toks := tk } := ⟨h', tk, rfl, .grow hk⟩

/-- what a name holds: a tree, or the frame's own list, which it alone may change -/
inductive LV where
  | val (t : AV)
  | own (pl : Bool) (l : List AV)
abbrev Sg := List (Str × LV)
noncomputable def Sg.get : Sg → Str → Option LV
  | [], _ => none
  | (y, t) :: r, x => if y = x then some t else Sg.get r x

noncomputable def LRel (ln : Option Addr) (O X : List Addr) (h : Heap) (v : Value) : LV → Prop
  | .val t => RV ln X h v t
  | .own pl ts => ∃ a us, v = .ref a ∧ a ∈ O ∧ ln ≠ some a ∧ h.IsList a (List.toArray us) ∧ (pl = true → h.PlainList a (List.toArray us)) ∧ RVs ln X h us ts

/-- a name's reading -/
noncomputable def Rd (env : Env) (h : Heap) (x : Str) (v : Value) : Prop :=
  (env.kindOf x = some .local ∧ ∃ m, h.Ns env.locals m ∧ m x = some v) ∨
  ((env.kindOf x = some .cell ∨ env.kindOf x = some .free) ∧ ∃ c, env.cells.lookup x = some c ∧ h.IsCell c (some v))

structure Inv (base : Heap) (env : Env) (ln : Option Addr) (O X : List Addr) (σ : Sg) (h : Heap) : Prop where
  fk : env.scope.kind = .function
  gl : env.globals = mainGlobals ∧ env.builtins = builtinsNs
  ns : ∃ m, h.Ns env.locals m
  rd : ∀ x t, σ.get x = some t → ∃ v, Rd env h x v ∧ LRel ln O X h v t
  cs : ∀ y c, (y, c) ∈ env.cells → ∃ v, h.IsCell c v
  ap : env.cells.Pairwise fun x y => x.2 ≠ y.2
  ox : ∀ a ∈ O, a ∈ X
  ob : ∀ a ∈ O, base.get? a = none
  xs : ∀ a ∈ X, ∃ o, h.get? a = some o ∧ isData o = true
  bs : ∀ b o, base.get? b = some o → h.get? b = some o
  li : ∀ l, ln = some l → l ∈ X ∧ LineOk X h l ∧ base.get? l = none

theorem Heap.Ns.obj {h : Heap} {L : Addr} {m} (x : h.Ns L m) : ∃ o, h.get? L = some o ∧ isData o = false := by
  obtain ⟨o, es, ep, e, d, _⟩ := x
  exact ⟨o, e, by unfold isData; rw [d]⟩
theorem Heap.IsCell.obj {h : Heap} {c : Addr} {v} (x : h.IsCell c v) : ∃ o, h.get? c = some o ∧ isData o = false := by
  obtain ⟨o, e, d⟩ := x
  exact ⟨o, e, by unfold isData; rw [d]⟩
theorem LineOk.obj {X h l} (x : LineOk X h l) : ∃ o, h.get? l = some o ∧ isData o = true := by
  obtain ⟨xa, k, t, vs, is, ⟨o, a, _, n, d⟩, _⟩ := x
  exact ⟨o, a, by unfold isData; rw [d]⟩

section
variable {base h h' : Heap} {env : Env} {ln : Option Addr} {O X : List Addr} {σ : Sg}
theorem Inv.sq (I : Inv base env ln O X σ h) (k : KpH ln h h') : Sq X h h' := fun a o hx _ e => k.keep a o (fun q => hx (I.li a q).1) e
theorem Inv.nd (I : Inv base env ln O X σ h) {b : Addr} {o : Obj} (e : h.get? b = some o) (d : isData o = false) : ln ≠ some b := fun q => by
  obtain ⟨o', e', d'⟩ := (I.li b q).2.1.obj
  rw [e] at e'; cases e'; rw [d] at d'; cases d'
theorem Ns.kp {L : Addr} {m} (I : Inv base env ln O X σ h) (k : KpH ln h h') (x : h.Ns L m) : h'.Ns L m := by
  obtain ⟨o, e, d⟩ := Heap.Ns.obj x
  exact x.at' fun o' e' => k.keep _ _ (I.nd e d) e'
theorem IsCell.kp {c : Addr} {v} (I : Inv base env ln O X σ h) (k : KpH ln h h') (x : h.IsCell c v) : h'.IsCell c v := by
  obtain ⟨o, e, d⟩ := Heap.IsCell.obj x
  obtain ⟨o', e', d'⟩ := x
  exact ⟨o', k.keep _ _ (I.nd e d) e', d'⟩
theorem Rd.kp {x v} (I : Inv base env ln O X σ h) (k : KpH ln h h') (r : Rd env h x v) : Rd env h' x v := by
  rcases r with ⟨a, m, n, e⟩ | ⟨a, c, l, n⟩
  · exact .inl ⟨a, m, Ns.kp I k n, e⟩
  · exact .inr ⟨a, c, l, IsCell.kp I k n⟩
theorem LRel.kp {v t} (I : Inv base env ln O X σ h) (k : KpH ln h h') (r : LRel ln O X h v t) : LRel ln O X h' v t := by
  cases t with
  | val t => exact RVs.keep (I.sq k) r
  | own pl ts =>
    obtain ⟨a, us, e, hx, hl, l, p, q⟩ := r
    exact ⟨a, us, e, hx, hl, l.at fun o => k.keep _ o hl, fun z => (p z).at fun o => k.keep _ o hl, q.keep (I.sq k)⟩
theorem Inv.kp (I : Inv base env ln O X σ h) (k : KpH ln h h') : Inv base env ln O X σ h' where
  fk := I.fk
  gl := I.gl
  ns := let ⟨m, n⟩ := I.ns; ⟨m, Ns.kp I k n⟩
  rd := fun x t e => let ⟨v, r, l⟩ := I.rd x t e; ⟨v, r.kp I k, l.kp I k⟩
  cs := fun y c e => let ⟨v, r⟩ := I.cs y c e; ⟨v, IsCell.kp I k r⟩
  ap := I.ap
  ox := I.ox
  ob := I.ob
  xs := fun a hx => by
    by_cases q : ln = some a
    · obtain ⟨m, lo, _⟩ := I.li a q
      exact (k.line a X q lo).obj
    · obtain ⟨o, e, d⟩ := I.xs a hx; exact ⟨o, k.keep _ _ q e, d⟩
  bs := fun b o e => k.keep b o (fun q => by rw [(I.li b q).2.2] at e; cases e) (I.bs b o e)
  li := fun l e => let ⟨a, b, c⟩ := I.li l e; ⟨a, k.line l X e b, c⟩
end
end Mine
end B1_part
section B2_part
open PySem PySem.Calls PyProof.Rows
namespace Mine

/-- where a piece of text runs -/
structure Cx where
  prog : Program
  w : World
  base : Heap
  A : Around
  env : Env
  ln : Option Addr
/-- room for k calls one in the other -/
structure Rm (A : Around) (k : Nat) : Prop where
  hd : A.handled = none
  dp : A.depth + k < 900
  un : A.units + 100 * k < 9000

noncomputable def Pst (c : Cx) (X : List Addr) (s : Shared) (Q : AV → Prop) : Value → Shared → Prop := fun v s' => Kp c.ln s s' ∧ ∃ t, RV c.ln X s'.heap v t ∧ Q t
noncomputable def PstB (c : Cx) (X : List Addr) (s : Shared) (Q : Bool → Prop) : Bool → Shared → Prop := fun b s' => Kp c.ln s s' ∧ Q b

noncomputable def EW (c : Cx) (σ : Sg) (e : Expr) (Q : AV → Prop) : Prop :=
  ∀ (O X : List Addr) (E : Value → Shared → Prop) (s : Shared), Inv c.base c.env c.ln O X σ s.heap → wpAny (model c.prog c.w) c.A (eval e c.env) (Pst c X s Q) E s
noncomputable def TW (c : Cx) (σ : Sg) (e : Expr) (Q : Bool → Prop) : Prop :=
  ∀ (O X : List Addr) (E : Value → Shared → Prop) (s : Shared), Inv c.base c.env c.ln O X σ s.heap → wpAny (model c.prog c.w) c.A (isTrue e c.env (eval e c.env)) (PstB c X s Q) E s
/-- an operation on two values -/
noncomputable def OpW (c : Cx) (σ : Sg) (m : Value → Value → Sem Value) (t1 t2 : AV) (Q : AV → Prop) : Prop :=
  ∀ (O X : List Addr) (E : Value → Shared → Prop) (s : Shared) (v1 v2 : Value), Inv c.base c.env c.ln O X σ s.heap → RV c.ln X s.heap v1 t1 → RV c.ln X s.heap v2 t2 → wpAny (model c.prog c.w) c.A (m v1 v2) (Pst c X s Q) E s
noncomputable def TrW (c : Cx) (σ : Sg) (t : AV) (Q : Bool → Prop) : Prop :=
  ∀ (O X : List Addr) (E : Value → Shared → Prop) (s : Shared) (v : Value), Inv c.base c.env c.ln O X σ s.heap → RV c.ln X s.heap v t → wpAny (model c.prog c.w) c.A (truthy v) (PstB c X s Q) E s

section
variable {c : Cx} {σ : Sg} {Q : AV → Prop} {P : Bool → Prop}

theorem Pst.of {X s s'} {Q : AV → Prop} {v t} (k : Kp c.ln s s') (r : RV c.ln X s'.heap v t) (q : Q t) : Pst c X s Q v s' := ⟨k, t, r, q⟩
theorem Pst.up {X s s' v s''} {Q : AV → Prop} (k : Kp c.ln s s') (p : Pst c X s' Q v s'') : Pst c X s Q v s'' := ⟨k.trans p.1, p.2⟩
theorem PstB.up {X s s' b s''} {Q : Bool → Prop} (k : Kp c.ln s s') (p : PstB c X s' Q b s'') : PstB c X s Q b s'' := ⟨k.trans p.1, p.2⟩

theorem EW.mono {e} {Q Q' : AV → Prop} (h : EW c σ e Q) (q : ∀ t, Q t → Q' t) : EW c σ e Q' := fun O X E s I =>
  wpAny_mono (h O X E s I) (fun _ _ ⟨k, t, r, p⟩ => ⟨k, t, r, q t p⟩) fun _ _ x => x
theorem TW.mono {e} {Q Q' : Bool → Prop} (h : TW c σ e Q) (q : ∀ t, Q t → Q' t) : TW c σ e Q' := fun O X E s I =>
  wpAny_mono (h O X E s I) (fun _ _ ⟨k, p⟩ => ⟨k, q _ p⟩) fun _ _ x => x

theorem EW_name {x pos t} (hg : σ.get x = some (.val t)) (q : Q t) (hd : (x == ("__debug__" : Str)) = false := by decide) (hc : (x == ("__classdict__" : Str)) = false := by decide) : EW c σ (.Name x pos) Q := fun O X E s I => by
  obtain ⟨v, r, l⟩ := I.rd x _ hg
  have p : Pst c X s Q v s := ⟨.refl, t, l, q⟩
  rcases r with ⟨a, m, n, e⟩ | ⟨a | a, ca, l', n⟩
  · exact wpAny_Name (wpAny_loadName_local I.fk a n e p) hd
  · exact wpAny_Name (wpAny_loadName_cell I.fk a l' n p) hd
  · exact wpAny_Name (wpAny_loadName_free I.fk a l' n p hc) hd

theorem EW_int {i k pos} (q : Q (.int i)) : EW c σ (.Constant (.int i) k pos) Q := fun O X E s _ => wpAny_Constant_int ⟨.tok _, _, .int .nil, q⟩
theorem EW_none {k pos} (q : Q .none) : EW c σ (.Constant .none k pos) Q := fun O X E s _ => wpAny_pure (a := Value.none) (⟨.refl, _, .nun .nil, q⟩ : Pst c X s Q _ _)
theorem EW_bool {b k pos} (q : Q (.bool b)) : EW c σ (.Constant (.bool b) k pos) Q := fun O X E s _ => wpAny_pure (a := Value.bool b) (⟨.refl, _, .bool .nil, q⟩ : Pst c X s Q _ _)

/-- two values in a row -/
theorem bind2 {l r : Expr} {m : Value → Value → Sem Value} {O X E s} (h : EW c σ l fun t1 => EW c σ r fun t2 => OpW c σ m t1 t2 Q) (I : Inv c.base c.env c.ln O X σ s.heap) :
    wpAny (model c.prog c.w) c.A (eval l c.env) (fun a s₁ => wpAny (model c.prog c.w) c.A (eval r c.env) (fun b s₂ => wpAny (model c.prog c.w) c.A (m a b) (Pst c X s Q) E s₂) E s₁) E s := by
  refine wpAny_mono (h O X E s I) (fun v1 s1 h1 => ?_) fun _ _ x => x
  obtain ⟨k1, t1, r1, h1⟩ := h1
  have I1 := I.kp k1.kp
  refine wpAny_mono (h1 O X E s1 I1) (fun v2 s2 h2 => ?_) fun _ _ x => x
  obtain ⟨k2, t2, r2, h2⟩ := h2
  exact wpAny_mono (h2 O X E s2 v1 v2 (I1.kp k2.kp) (r1.keep (I1.sq k2.kp)) r2) (fun _ _ p => Pst.up (k1.trans k2) p) fun _ _ x => x

theorem EW_bin {l op r pos} (h : EW c σ l fun t1 => EW c σ r fun t2 => OpW c σ (binaryOp op) t1 t2 Q) : EW c σ (.BinOp l op r pos) Q := fun O X E s I => wpAny_BinOp (bind2 h I)
theorem EW_cmp {l op r pos} (h : EW c σ l fun t1 => EW c σ r fun t2 => OpW c σ (compareOp op) t1 t2 Q) (hm : behindInMarks op r = false := by with_unfolding_all rfl) : EW c σ (.Compare l [op] [r] pos) Q := fun O X E s I => wpAny_Compare1 (bind2 h I) hm

theorem TW_cmp {l op r pos} (h : EW c σ l fun t1 => EW c σ r fun t2 => OpW c σ (compareOp op) t1 t2 fun t => ∃ b, t = .bool b ∧ P b) (hm : behindInMarks op r = false := by with_unfolding_all rfl) :
    TW c σ (.Compare l [op] [r] pos) P := fun O X E s I => by
  refine wpAny_isTrue_Compare1 (wpAny_mono (bind2 h I) (fun a s1 h1 => wpAny_mono h1 (fun b s2 h2 => wpAny_mono h2 (fun v s3 h3 => ?_) fun _ _ x => x) fun _ _ x => x) fun _ _ x => x) hm
  obtain ⟨k, t, r, b, rfl, q⟩ := h3
  cases r.bool_inv
  exact wpAny_truthy_bool ⟨k, q⟩

theorem OpW_int2 {m : Value → Value → Sem Value} {a b d : Int} (q : Q (.int d))
    (h : ∀ {A : Around} {E : Value → Shared → Prop} {s : Shared} {t u : Tok} {R : Value → Shared → Prop}, R (.int d s.toks) { s with toks := s.toks + 1 } → wpAny (model c.prog c.w) A (m (.int a t) (.int b u)) R E s) :
    OpW c σ m (.int a) (.int b) Q := fun O X E s v1 v2 I r1 r2 => by
  obtain ⟨t, rfl⟩ := r1.int_inv
  obtain ⟨u, rfl⟩ := r2.int_inv
  exact h ⟨.tok _, _, .int .nil, q⟩
theorem OpW_intB {m : Value → Value → Sem Value} {a b : Int} {d : Bool} (q : Q (.bool d))
    (h : ∀ {A : Around} {E : Value → Shared → Prop} {s : Shared} {t u : Tok} {R : Value → Shared → Prop}, R (.bool d) s → wpAny (model c.prog c.w) A (m (.int a t) (.int b u)) R E s) :
    OpW c σ m (.int a) (.int b) Q := fun O X E s v1 v2 I r1 r2 => by
  obtain ⟨t, rfl⟩ := r1.int_inv
  obtain ⟨u, rfl⟩ := r2.int_inv
  exact h ⟨.refl, _, .bool .nil, q⟩
variable {a b : Int}
theorem Op_add (q : Q (.int (a + b))) : OpW c σ (binaryOp .Add) (.int a) (.int b) Q := OpW_int2 q fun h => PyProof.Rows.add_int h
theorem Op_sub (q : Q (.int (a - b))) : OpW c σ (binaryOp .Sub) (.int a) (.int b) Q := OpW_int2 q fun h => PyProof.Rows.sub_int h
theorem Op_mul (q : Q (.int (a * b))) (hm : IntMulOk a b) : OpW c σ (binaryOp .Mult) (.int a) (.int b) Q := OpW_int2 q fun h => PyProof.Rows.mul_int h hm
theorem Op_mod (q : b ≠ 0 ∧ Q (.int (a.fmod b))) : OpW c σ (binaryOp .Mod) (.int a) (.int b) Q := OpW_int2 q.2 fun h => PyProof.Rows.mod_int q.1 h
theorem Op_fdiv (hb : b ≠ 0) (hp : Builtin.divisionGoesByPylong a b = false) (q : Q (.int (a.fdiv b))) : OpW c σ (binaryOp .FloorDiv) (.int a) (.int b) Q := OpW_int2 q fun h => PyProof.Rows.floordiv_int hb h (.inl hp)
theorem Op_and (q : Q (.int (Builtin.bitAnd a b))) : OpW c σ (binaryOp .BitAnd) (.int a) (.int b) Q := OpW_int2 q fun h => PyProof.Rows.and_int h
theorem Op_shl (hn : 0 ≤ b) (hn2 : b ≤ 1000000) (ha : a.natAbs < 2 ^ 64) (q : Q (.int (a * 2 ^ b.toNat))) : OpW c σ (binaryOp .LShift) (.int a) (.int b) Q := OpW_int2 q fun h => PyProof.Rows.lshift_int_small hn hn2 ha h
theorem Op_iadd (q : Q (.int (a + b))) : OpW c σ (inplaceOp .Add) (.int a) (.int b) Q := OpW_int2 q fun h => PyProof.Rows.iadd_int h
theorem Op_ishr (hn : 0 ≤ b) (q : Q (.int (a.fdiv (2 ^ b.toNat)))) : OpW c σ (inplaceOp .RShift) (.int a) (.int b) Q := OpW_int2 q fun h => PyProof.Rows.irshift_int hn h
theorem Op_pow2 {a b : Int} (ha : 2 ≤ a) (hb : 0 ≤ b) (hz : ¬ Builtin.Int.intTooBig (((Builtin.Int.intBits a : Nat) : Int) * b) = true) (q : Q (.int (a ^ b.toNat))) : OpW c σ (binaryOp .Pow) (.int a) (.int b) Q := by
  by_cases h0 : b = 0
  · subst h0
    refine OpW_int2 (d := 1) (by simpa using q) fun h => AutoIntOps.pow_0 (Int.le_refl _) rfl ?_
    exact h
  · refine OpW_int2 q fun h => AutoIntOps.pow_4 hb (by simpa using h0) (by simp; omega) (by simp; omega) hz ?_
    exact h
theorem Op_lt (q : Q (.bool (decide (a < b)))) : OpW c σ (compareOp .Lt) (.int a) (.int b) Q := OpW_intB q fun h => PyProof.Rows.lt_int h
theorem Op_gt (q : Q (.bool (decide (b < a)))) : OpW c σ (compareOp .Gt) (.int a) (.int b) Q := OpW_intB q fun h => PyProof.Rows.gt_int h
theorem Op_le (q : Q (.bool (decide (a ≤ b)))) : OpW c σ (compareOp .LtE) (.int a) (.int b) Q := OpW_intB q fun h => PyProof.Rows.le_int h
theorem Op_eq (q : Q (.bool (a == b))) : OpW c σ (compareOp .Eq) (.int a) (.int b) Q := OpW_intB q fun h => PyProof.Rows.eq_int h
theorem Op_ne (q : Q (.bool (a != b))) : OpW c σ (compareOp .NotEq) (.int a) (.int b) Q := OpW_intB q fun h => PyProof.Rows.ne_int h
theorem Op_neB {a b : Bool} (q : Q (.bool (a != b))) : OpW c σ (compareOp .NotEq) (.bool a) (.bool b) Q := fun O X E s v1 v2 I r1 r2 => by
  cases r1.bool_inv; cases r2.bool_inv
  exact ne_bool ⟨.refl, _, .bool .nil, q⟩
noncomputable def AV.isNone : AV → Bool
  | .none => true
  | _ => false
theorem RV.nonone {ln X h v t} (r : RV ln X h v t) (e : t.isNone = false) : v ≠ .none := by
  rintro rfl; cases r; cases e
theorem Op_is {t} (q : Q (.bool t.isNone)) : OpW c σ (compareOp .Is) t .none Q := fun O X E s v1 v2 I r1 r2 => by
  cases r2.none_inv
  cases e : t.isNone with
  | true =>
    obtain rfl : t = .none := by cases t <;> first | rfl | cases e
    cases r1.none_inv; exact is_none_none ⟨.refl, _, .bool .nil, q⟩
  | false => exact is_none_ne (r1.nonone e) ⟨.refl, _, .bool .nil, e ▸ q⟩
theorem Op_isnot {t} (q : Q (.bool (!t.isNone))) : OpW c σ (compareOp .IsNot) t .none Q := fun O X E s v1 v2 I r1 r2 => by
  cases r2.none_inv
  cases e : t.isNone with
  | true =>
    obtain rfl : t = .none := by cases t <;> first | rfl | cases e
    cases r1.none_inv; exact isnot_none_none ⟨.refl, _, .bool .nil, q⟩
  | false => exact isnot_none_ne (r1.nonone e) ⟨.refl, _, .bool .nil, by rw [e] at q; exact q⟩

theorem EW_neg {e pos} (h : EW c σ e fun t => ∃ a, t = .int a ∧ Q (.int (-a))) : EW c σ (.UnaryOp .USub e pos) Q := fun O X E s I => by
  refine UnaryOp_ (wpAny_mono (h O X E s I) (fun v s1 h1 => ?_) fun _ _ x => x)
  obtain ⟨k, t, r, a, rfl, q⟩ := h1
  obtain ⟨u, rfl⟩ := r.int_inv
  exact PyProof.Rows.neg_int ⟨k.trans (.tok _), _, .int .nil, q⟩

theorem EW_if {t b o pos} (h : TW c σ t fun x => if x then EW c σ b Q else EW c σ o Q) : EW c σ (.IfExp t b o pos) Q := fun O X E s I => by
  refine wpAny_IfExp (wpAny_mono (h O X E s I) (fun x s1 h1 => ?_) fun _ _ x => x)
  obtain ⟨k, h1⟩ := h1
  cases x <;> exact wpAny_mono (h1 O X E s1 (I.kp k.kp)) (fun _ _ p => Pst.up k p) fun _ _ x => x

-- truth
theorem Tr_bool {b} (q : P b) : TrW c σ (.bool b) P := fun O X E s v I r => by cases r.bool_inv; exact wpAny_truthy_bool ⟨.refl, q⟩
theorem Tr_int {i} (q : P (i != 0)) : TrW c σ (.int i) P := fun O X E s v I r => by obtain ⟨t, rfl⟩ := r.int_inv; exact PySem.P.truthy_int ⟨.refl, q⟩

theorem TW_plain {e} (h : EW c σ e fun t => TrW c σ t P) (he : ∀ env whole, isTrue e env whole = (do let v ← whole; standAt e.pos; holding [v] (truthy v)) := by intro _ _; rfl) : TW c σ e P := fun O X E s I => by
  refine isTrue_plain (wpAny_mono (h O X E s I) (fun v s1 h1 => ?_) fun _ _ x => x) (he _ _)
  obtain ⟨k, t, r, h1⟩ := h1
  exact wpAny_mono (h1 O X E s1 v (I.kp k.kp) r) (fun _ _ p => PstB.up k p) fun _ _ x => x
theorem TW_not {e pos} (h : TW c σ e fun b => P (!b)) : TW c σ (.UnaryOp .Not e pos) P := fun O X E s I =>
  PyProof.Rows.isTrue_not (wpAny_mono (h O X E s I) (fun b s1 h1 => h1) fun _ _ x => x)
theorem TW_and {x rest pos} (h : TW c σ x fun b => if b then TW c σ (.BoolOp .And rest pos) P else P false) : TW c σ (.BoolOp .And (x :: rest) pos) P := fun O X E s I => by
  refine isTrue_and (wpAny_mono (h O X E s I) (fun b s1 h1 => ?_) fun _ _ x => x)
  obtain ⟨k, h1⟩ := h1
  cases b with
  | false => exact ⟨k, h1⟩
  | true => exact wpAny_mono (h1 O X E s1 (I.kp k.kp)) (fun _ _ p => PstB.up k p) fun _ _ x => x
theorem TW_andN {pos} (h : P true) : TW c σ (.BoolOp .And [] pos) P := fun O X E s I => isTrue_and_nil ⟨.refl, h⟩
theorem TW_or {x rest pos} (h : TW c σ x fun b => if b then P true else TW c σ (.BoolOp .Or rest pos) P) : TW c σ (.BoolOp .Or (x :: rest) pos) P := fun O X E s I => by
  refine isTrue_or (wpAny_mono (h O X E s I) (fun b s1 h1 => ?_) fun _ _ x => x)
  obtain ⟨k, h1⟩ := h1
  cases b with
  | true => exact ⟨k, h1⟩
  | false => exact wpAny_mono (h1 O X E s1 (I.kp k.kp)) (fun _ _ p => PstB.up k p) fun _ _ x => x
theorem TW_orN {pos} (h : P false) : TW c σ (.BoolOp .Or [] pos) P := fun O X E s I => isTrue_or_nil ⟨.refl, h⟩
/-- a chain a op b op' c, its parts plain -/
theorem TW_chain {l o1 o2 r1 r2 pos} (h : EW c σ l fun t0 => EW c σ r1 fun t1 => OpW c σ (compareOp o1) t0 t1 fun u => ∃ b, u = .bool b ∧ (if b then EW c σ r2 fun t2 => OpW c σ (compareOp o2) t1 t2 fun u' => ∃ b', u' = .bool b' ∧ P b' else P false))
    (hm : lastMarks [o1, o2] [r1, r2] = false := by with_unfolding_all rfl) : TW c σ (.Compare l [o1, o2] [r1, r2] pos) P := fun O X E s I => by
  refine isTrue_chain (wpAny_mono (h O X E s I) (fun v0 s0 h0 => test_link ?_) fun _ _ x => x) hm
  obtain ⟨k0, t0, q0, h0⟩ := h0
  have I0 := I.kp k0.kp
  refine wpAny_mono (h0 O X E s0 I0) (fun v1 s1 h1 => ?_) fun _ _ x => x
  obtain ⟨k1, t1, q1, h1⟩ := h1
  have I1 := I0.kp k1.kp
  refine wpAny_mono (h1 O X E s1 v0 v1 I1 (q0.keep (I0.sq k1.kp)) q1) (fun u s2 h2 => ?_) fun _ _ x => x
  obtain ⟨k2, _, q2, b, rfl, h2⟩ := h2
  cases q2.bool_inv
  have I2 := I1.kp k2.kp
  refine wpAny_truthy_bool ?_
  cases b with
  | false => exact ⟨(k0.trans k1).trans k2, h2⟩
  | true =>
    refine test_last (wpAny_mono (h2 O X E s2 I2) (fun v3 s3 h3 => ?_) fun _ _ x => x)
    obtain ⟨k3, t3, q3, h3⟩ := h3
    have I3 := I2.kp k3.kp
    refine wpAny_mono (h3 O X E s3 v1 v3 I3 ((q1.keep (I1.sq k2.kp)).keep (I2.sq k3.kp)) q3) (fun u s4 h4 => ?_) fun _ _ x => x
    obtain ⟨k4, _, q4, b', rfl, h4⟩ := h4
    cases q4.bool_inv
    exact wpAny_truthy_bool ⟨(((k0.trans k1).trans k2).trans k3).trans k4, h4⟩

-- and, or as values (of bools)
theorem EW_one {op e pos} (h : EW c σ e Q) : EW c σ (.BoolOp op [e] pos) Q := fun O X E s I => BoolOp_one (h O X E s I)
theorem EW_and {e1 e2 rest pos} (h : EW c σ e1 fun t => ∃ b, t = .bool b ∧ if b then EW c σ (.BoolOp .And (e2 :: rest) pos) Q else Q (.bool false)) : EW c σ (.BoolOp .And (e1 :: e2 :: rest) pos) Q := fun O X E s I => by
  refine BoolOp_and (wpAny_mono (h O X E s I) (fun v s1 h1 => ?_) fun _ _ x => x)
  obtain ⟨k, _, r, b, rfl, h1⟩ := h1
  cases r.bool_inv
  refine wpAny_truthy_bool ?_
  cases b with
  | false => exact ⟨k, _, .bool .nil, h1⟩
  | true => exact wpAny_mono (h1 O X E s1 (I.kp k.kp)) (fun _ _ p => Pst.up k p) fun _ _ x => x
theorem EW_or {e1 e2 rest pos} (h : EW c σ e1 fun t => ∃ b, t = .bool b ∧ if b then Q (.bool true) else EW c σ (.BoolOp .Or (e2 :: rest) pos) Q) : EW c σ (.BoolOp .Or (e1 :: e2 :: rest) pos) Q := fun O X E s I => by
  refine BoolOp_or (wpAny_mono (h O X E s I) (fun v s1 h1 => ?_) fun _ _ x => x)
  obtain ⟨k, _, r, b, rfl, h1⟩ := h1
  cases r.bool_inv
  refine wpAny_truthy_bool ?_
  cases b with
  | true => exact ⟨k, _, .bool .nil, h1⟩
  | false => exact wpAny_mono (h1 O X E s1 (I.kp k.kp)) (fun _ _ p => Pst.up k p) fun _ _ x => x
end
end Mine
end B2_part
section T2_part
open PySem PySem.Calls PyProof.Rows
namespace Mine
-- pow with three ints
theorem kind_pow : builtinKind "pow" = none := by decide +kernel
theorem plain_pow : plainId "pow" = true := by decide +kernel
theorem entry_pow : entryFor table "pow" = some Builtin.«pow» := entryFor_of_fast (by kernel_rfl)
theorem args_pow3 (a b c : Value) : argsOk "pow" ⟨[a, b, c], []⟩ := by unfold argsOk; kernel_rfl
theorem args_int_pow3 (a b c : Value) : argsOk "int.__pow__" ⟨[a, b, c], []⟩ := by unfold argsOk; kernel_rfl
section
variable {prog : Program} {w : World} {A : Around} {E : Value → Shared → Prop} {s : Shared}
theorem int_pow3 (a e m : Int) (t u v : Tok) (he : ¬ e < 0) (hm : ¬ (m == 0) = true) (hm1 : ¬ (m.natAbs == 1) = true)  :
    Gives (Builtin.«int.__pow__» ⟨[.int a t, .int e u, .int m v], []⟩) (.int (if (decide (m < 0) && (((Builtin.powMod (a % (m.natAbs : Int)).toNat e.natAbs m.natAbs : Nat) : Int)) != 0) = true then ((Builtin.powMod (a % (m.natAbs : Int)).toNat e.natAbs m.natAbs : Nat) : Int) - m.natAbs else ((Builtin.powMod (a % (m.natAbs : Int)).toNat e.natAbs m.natAbs : Nat) : Int))) :=
  .of_wp fun M A E s Q h => by obtain ⟨hp, g, d, tk, os⟩ := s; wp_walk; exact ⟨_, rfl, h⟩
theorem call_pow3 {a e m : Int} {t u v : Tok} {Q : Value → Shared → Prop} (he : 0 ≤ e) (hm : 2 ≤ m) (h : ∀ tk, Q (.int (Builtin.powMod (a % m).toNat e.natAbs m.natAbs : Nat) tk) { s with toks := tk + 1 }) :
    wpAny (model prog w) A (call (.builtin "pow") [.int a t, .int e u, .int m v]) Q E s := by
  have h4 : ((m.natAbs : Nat) : Int) = m := by omega
  have g := int_pow3 a e m t u v (by omega) (by simp; omega) (by simp; omega)
  rw [h4, if_neg (by simp; omega)] at g
  refine call_function_entry kind_pow plain_pow entry_pow (args_pow3 _ _ _) ?_
  unfold Builtin.«pow»
  refine wpAny_bind (wpAny_of_eq (show Builtin.Builtins.bindParams "pow" ["base", "exp", "mod"] 2 ⟨[.int a t, .int e u, .int m v], []⟩ = pure [some (.int a t), some (.int e u), some (.int m v)] from rfl) ?_)
  refine wpAny_bind (wpAny_rule ?_)
  refine wpAny_bind (wpAny_typeOf (T := "int") (typeIs_int _ _ _) ?_)
  dsimp only
  refine wpAny_bind (wpAny_of_eq slot_int_pow.lookup ?_)
  dsimp only [Option.getD]
  refine wpAny_bind (wpAny_callSpecial?_slot (name := Str.ofString "__pow__") (typeIs_int _ _ _) slot_int_pow (call_gives slot_int_pow (typeIs_int _ _ _) entry_int_pow (args_int_pow3 _ _ _) g ?_))
  dsimp only [Made.post]
  rw [if_pos (by rfl)]
  exact wpAny_pure ⟨_, rfl, h _⟩
end
end Mine
end T2_part
section B3_part
open PySem PySem.Calls PyProof.Rows
namespace Mine

noncomputable def bnames : List Str := ["len", "abs", "range", "enumerate", "reversed", "sum", "pow"]
/-- what the top gives -/
structure Glb (base : Heap) (mg : Str → Option Value) : Prop where
  g : base.Ns mainGlobals mg
  b : ∃ mb, base.Ns builtinsNs mb ∧ ∀ x ∈ bnames, mb x = bootBuiltins x
  lim : base.NoLimit
  nob : ∀ x ∈ bnames, mg x = none

noncomputable def EsW (c : Cx) (σ : Sg) (es : List Expr) (Q : List AV → Prop) : Prop :=
  ∀ (O X : List Addr) (E : Value → Shared → Prop) (s : Shared) (pos : Pos), Inv c.base c.env c.ln O X σ s.heap →
    wpAny (model c.prog c.w) c.A (spliced (backTo pos (starEach es c.env))) (fun vs s' => Kp c.ln s s' ∧ ∃ ts, RVs c.ln X s'.heap vs ts ∧ Q ts) E s
/-- a call of a value of the machine's own -/
noncomputable def BiW (c : Cx) (σ : Sg) (f : Value) (ts : List AV) (Q : AV → Prop) : Prop :=
  ∀ (O X : List Addr) (E : Value → Shared → Prop) (s : Shared) (vs : List Value), Inv c.base c.env c.ln O X σ s.heap → RVs c.ln X s.heap vs ts → wpAny (model c.prog c.w) c.A (call f vs) (Pst c X s Q) E s

section
variable {c : Cx} {σ : Sg} {Q : AV → Prop}

theorem fresh_notin {base env ln O X σ h} (I : Inv base env ln O X σ h) : h.objs.size ∉ X := fun hm => by
  obtain ⟨o, e, _⟩ := I.xs _ hm
  exact Nat.lt_irrefl _ (Heap.lt_size e)
theorem Kp.push {ln s} (o : Obj) {tk} : Kp ln s { s with heap := s.heap.push o, toks := tk } := .grow fun _ _ e => Heap.get?_push_of_some _ e

theorem EsW_nil {R : List AV → Prop} (q : R []) : EsW c σ [] R := fun O X E s pos I => args_nil ⟨.refl, [], .nil, q⟩
theorem EsW_cons {e es} {R : List AV → Prop} (h : EW c σ e fun t => EsW c σ es fun ts => R (t :: ts)) (he : ∀ env, starEach (e :: es) env = (false, eval e env) :: starEach es env := by intro _; rfl) : EsW c σ (e :: es) R := fun O X E s pos I => by
  refine args_cons (wpAny_mono (h O X E s I) (fun v s1 h1 => ?_) fun _ _ x => x) (he _)
  obtain ⟨k1, t, r1, h1⟩ := h1
  have I1 := I.kp k1.kp
  refine wpAny_mono (h1 O X E s1 pos I1) (fun vs s2 h2 => ?_) fun _ _ x => x
  obtain ⟨k2, ts, r2, q⟩ := h2
  exact ⟨k1.trans k2, t :: ts, (r1.keep (I1.sq k2.kp)).cons r2, q⟩

theorem EW_tuple {es k pos} (h : EsW c σ es fun ts => ts.length ≤ 1000 ∧ Q (.tup ts)) : EW c σ (.Tuple es k pos) Q := fun O X E s I => by
  refine wpAny_Tuple_spliced (wpAny_mono (h O X E s pos I) (fun vs s1 h1 => ?_) fun _ _ x => x)
  obtain ⟨k1, ts, r, hl, q⟩ := h1
  refine ⟨by rw [r.len, sizeLine_eq]; omega, k1.trans (.push _), _, .tup (fresh_notin (I.kp k1.kp)) (IsT.new _ _) (r.keep ?_) .nil, q⟩
  exact fun a o _ _ e => Heap.get?_push_of_some _ e
theorem EW_list {es pos} (h : EsW c σ es fun ts => ts.length ≤ 1000 ∧ Q (.list ts)) : EW c σ (.List es pos) Q := fun O X E s I => by
  refine wpAny_List_spliced (wpAny_mono (h O X E s pos I) (fun vs s1 h1 => ?_) fun _ _ x => x)
  obtain ⟨k1, ts, r, hl, q⟩ := h1
  refine ⟨by rw [r.len, sizeLine_eq]; omega, k1.trans (.push _), _, .list (fresh_notin (I.kp k1.kp)) (IsL.new _ _).isList (r.keep ?_) .nil, q⟩
  exact fun a o _ _ e => Heap.get?_push_of_some _ e

-- calls
noncomputable def Rdef (base : Heap) (f : Addr) : Prop := ∃ o fd, base.get? f = some o ∧ o.data = .func fd
/-- what a call's heap has to bear -/
structure St0 (base : Heap) (ln : Option Addr) (X : List Addr) (h : Heap) : Prop where
  xs : ∀ a ∈ X, ∃ o, h.get? a = some o ∧ isData o = true
  bs : ∀ b o, base.get? b = some o → h.get? b = some o
  li : ∀ l, ln = some l → l ∈ X ∧ LineOk X h l ∧ base.get? l = none
theorem Inv.st {base env ln O X σ h} (I : Inv base env ln O X σ h) : St0 base ln X h := ⟨I.xs, I.bs, I.li⟩
noncomputable def CallW (prog : Program) (w : World) (base : Heap) (ln : Option Addr) (k : Nat) (f : Addr) (ts : List AV) (Q : AV → Prop) : Prop :=
  ∀ (A : Around) (X : List Addr) (E : Value → Shared → Prop) (s : Shared) (vs : List Value), Rm A k → St0 base ln X s.heap → RVs ln X s.heap vs ts →
    wpAny (model prog w) A (call (.ref f) vs) (fun v s' => Kp ln s s' ∧ ∃ t, RV ln X s'.heap v t ∧ Q t) E s
theorem CallW.mono {prog w base ln k f ts} {Q Q' : AV → Prop} (h : CallW prog w base ln k f ts Q) (q : ∀ t, Q t → Q' t) : CallW prog w base ln k f ts Q' := fun A X E s vs a b d =>
  wpAny_mono (h A X E s vs a b d) (fun v s' ⟨x, t, r, p⟩ => ⟨x, t, r, q t p⟩) fun _ _ x => x

theorem EW_nameG {mg x pos v} (G : Glb c.base mg) (hm : mg x = some (.ref v)) (q : Q (.fn v)) (hk : c.env.kindOf x = some .globalImplicit := by rfl) (hd : (x == ("__debug__" : Str)) = false := by decide) : EW c σ (.Name x pos) Q := fun O X E s I =>
  Name_function_global I.fk hk (loadGlobal_global (by rw [I.gl.1]; exact G.g.keeps I.bs) hm ⟨.refl, _, .fn .nil, q⟩) hd

theorem EW_call {func e args pos k} (R : Rm c.A k) (h : EW c σ func fun t => ∃ f, t = .fn f ∧ Rdef c.base f ∧ EsW c σ (e :: args) fun ts => CallW c.prog c.w c.base c.ln k f ts Q)
    (he : ∀ env, starEach (e :: args) env = (false, eval e env) :: starEach args env := by intro _; rfl)
    (hc : ∀ env, eval (.Call func (e :: args) [] pos) env = (do callWith pos (← eval func env) [] (backTo pos (starEach (e :: args) env)) (backToKw pos (keywordEach [] env))) := by intro _; rfl) : EW c σ (.Call func (e :: args) [] pos) Q := fun O X E s I => by
  refine Call_ (wpAny_mono (h O X E s I) (fun v s1 h1 => ?_) fun _ _ x => x) (hc _)
  obtain ⟨k1, t, r, f, rfl, ⟨o, fd, hf, hfd⟩, h1⟩ := h1
  cases r.fn_inv
  have I1 := I.kp k1.kp
  refine callWith_def hfd (wpAny_mono (h1 O X E s1 pos I1) (fun vs s2 h2 => ?_) fun _ _ x => x) (he _)
  obtain ⟨k2, ts, r2, h2⟩ := h2
  have I2 := I1.kp k2.kp
  exact ⟨I2.bs _ _ hf, wpAny_mono (h2 c.A X E s2 vs R I2.st r2) (fun v s3 ⟨k3, t, r3, q⟩ => ⟨(k1.trans k2).trans k3, t, r3, q⟩) fun _ _ x => x⟩

/-- a call of a built-in function or type by its name -/
theorem EW_bi {mg x px e args pos f} (G : Glb c.base mg) (hx : x ∈ bnames) (hv : bootBuiltins x = some f) (hf : (∃ id, f = .builtin id) ∨ ∃ T, f = .type T) (h : EsW c σ (e :: args) fun ts => BiW c σ f ts Q)
    (hk : c.env.kindOf x = some .globalImplicit := by rfl) (hd : (x == ("__debug__" : Str)) = false := by decide)
    (he : ∀ env, starEach (e :: args) env = (false, eval e env) :: starEach args env := by intro _; rfl)
    (hp : ∀ env, (backTo pos (starEach args env)).any (·.1) = false := by intro _; rfl)
    (hc : ∀ env, eval (.Call (.Name x px) (e :: args) [] pos) env = (do callWith pos (← eval (.Name x px) env) [] (backTo pos (starEach (e :: args) env)) (backToKw pos (keywordEach [] env))) := by intro _; rfl) : EW c σ (.Call (.Name x px) (e :: args) [] pos) Q := fun O X E s I => by
  obtain ⟨mb, hb, hmb⟩ := G.b
  refine Call_ (Name_function_global I.fk hk (loadGlobal_builtin (by rw [I.gl.1]; exact G.g.keeps I.bs) (G.nob x hx) (by rw [I.gl.2]; exact hb.keeps I.bs) ((hmb x hx).trans hv) ?_) hd) (hc _)
  have go : wpAny (model c.prog c.w) c.A (spliced (backTo pos (starEach (e :: args) c.env))) (fun vs s1 => wpAny (model c.prog c.w) c.A (call f vs) (Pst c X s Q) E s1) E s := by
    refine wpAny_mono (h O X E s pos I) (fun vs s1 h1 => ?_) fun _ _ x => x
    obtain ⟨k1, ts, r, h1⟩ := h1
    exact wpAny_mono (h1 O X E s1 vs (I.kp k1.kp) r) (fun _ _ p => Pst.up k1 p) fun _ _ x => x
  rcases hf with ⟨id, rfl⟩ | ⟨T, rfl⟩
  · exact callWith_builtin1 go (he _) (hp _)
  · rw [he] at go ⊢
    exact PyProof.Rows.callWith_type (by show (false || (backTo pos (starEach args c.env)).any (·.1)) = false; rw [hp]; rfl) (evalArgs_plain go)

theorem BiW_len {ts} (hl : ts.length < 2 ^ 62) (q : Q (.int ts.length)) : BiW c σ (.builtin "len") [.list ts] Q := fun O X E s vs I r => by
  cases r with
  | list hx l r' r'' =>
    cases r''
    have e := r'.len
    refine call_len_list l (by rw [List.size_toArray]; omega) ?_
    rw [List.size_toArray, e]
    exact ⟨.tok _, _, .int .nil, q⟩
theorem BiW_range1 {n : Int} (q : Q (.rng 0 n 1)) : BiW c σ (.type "range") [.int n] Q := fun O X E s vs I r => by
  cases r with
  | int r' => cases r'; exact call_range_1 ⟨.push _, _, .rng (fresh_notin I) (IsRange.new ..) .nil, q⟩
theorem BiW_range2 {a b : Int} (q : Q (.rng a b 1)) : BiW c σ (.type "range") [.int a, .int b] Q := fun O X E s vs I r => by
  cases r with
  | int r' => cases r' with
    | int r' => cases r'; exact call_range_2 ⟨.push _, _, .rng (fresh_notin I) (IsRange.new ..) .nil, q⟩
theorem BiW_abs {a : Int} (q : Q (.int (if a < 0 then -a else a))) : BiW c σ (.builtin "abs") [.int a] Q := fun O X E s vs I r => by
  cases r with
  | int r' => cases r'; exact call_abs_int fun u tk => ⟨.tok _, _, .int .nil, q⟩
theorem BiW_pow {a e m : Int} (he : 0 ≤ e) (hm : 2 ≤ m) (q : Q (.int (Builtin.powMod (a % m).toNat e.natAbs m.natAbs : Nat))) : BiW c σ (.builtin "pow") [.int a, .int e, .int m] Q := fun O X E s vs I r => by
  cases r with
  | int r' => cases r' with
    | int r' => cases r' with
      | int r' => cases r'; exact call_pow3 he hm fun tk => ⟨.tok _, _, .int .nil, q⟩

-- items
theorem Op_item {ts : List AV} {i : Int} {t value slice} (h0 : 0 ≤ i) (hi : i < 2 ^ 62) (ht : ts[i.toNat]? = some t) (q : Q t)
    (hs : ∀ a b, subscripted slice false a b = operate [a, b] (getItem a b) := by intro _ _; with_unfolding_all rfl) (hl : ∀ o r, letTemporaryGo value o r = pure () := by intro _ _; with_unfolding_all rfl) :
    OpW c σ (subscriptTail value slice) (.list ts) (.int i) Q := fun O X E s v1 v2 I r1 r2 => by
  obtain ⟨a, us, rfl, hx, l, r⟩ := r1.list_inv
  obtain ⟨u, rfl⟩ := r2.int_inv
  obtain ⟨v, hv, rv⟩ := r.getT ht
  exact subscriptTail_builtin l.typeIs list_getitem_lookup (wpAny_getItem_list l h0 (by omega) (by simpa using hv) ⟨.refl, _, rv, q⟩) (hs _ _) (hl _)
theorem Op_itemT {ts : List AV} {i : Int} {t value slice} (h0 : 0 ≤ i) (hi : i < 2 ^ 62) (ht : ts[i.toNat]? = some t) (q : Q t)
    (hs : ∀ a b, subscripted slice false a b = operate [a, b] (getItem a b) := by intro _ _; with_unfolding_all rfl) (hl : ∀ o r, letTemporaryGo value o r = pure () := by intro _ _; with_unfolding_all rfl) :
    OpW c σ (subscriptTail value slice) (.tup ts) (.int i) Q := fun O X E s v1 v2 I r1 r2 => by
  obtain ⟨a, us, n, rfl, hx, l, r⟩ := r1.tup_inv
  obtain ⟨u, rfl⟩ := r2.int_inv
  obtain ⟨v, hv, rv⟩ := r.getT ht
  have hlt := (List.getElem?_eq_some_iff.mp hv).1
  refine subscriptTail_builtin ⟨_, l, rfl⟩ PySem.F.slot_tuple_getitem.lookup (PySem.P.getItem_tuple l (by omega) (by omega) (seqIndex_of h0 (by rw [List.size_toArray]; omega)) (by simpa using hv) ⟨.refl, _, rv, q⟩) (hs _ _) (hl _)
theorem EW_sub {value slice pos} (h : EW c σ value fun t1 => EW c σ slice fun t2 => OpW c σ (subscriptTail value slice) t1 t2 Q) : EW c σ (.Subscript value slice pos) Q := fun O X E s I => Subscript_ (bind2 h I)

-- slices
noncomputable def PartW (c : Cx) (σ : Sg) : Option Expr → (Option Int → Prop) → Prop
  | none, R => R none
  | some e, R => EW c σ e fun t => ∃ i, t = .int i ∧ R (some i)
/-- a list's cut, by bounds from nought on -/
noncomputable def cut (ts : List AV) (lo hi : Option Int) : List AV := ((match hi with | none => ts | some b => ts.take b.toNat).drop (match lo with | none => 0 | some a => a.toNat))
theorem part_bind {e : Option Expr} {R : Option Int → Prop} {O X E s} (h : PartW c σ e R) (I : Inv c.base c.env c.ln O X σ s.heap) :
    wpAny (model c.prog c.w) c.A (evalPart e c.env) (fun v s' => Kp c.ln s s' ∧ ∃ i, IsPart v i ∧ R i) E s := by
  cases e with
  | none => rw [evalPart_none]; exact wpAny_pure ⟨.refl, none, .none, h⟩
  | some e =>
    rw [evalPart_some]
    refine wpAny_mono (h O X E s I) (fun v s1 h1 => ?_) fun _ _ x => x
    obtain ⟨k, t, r, i, rfl, q⟩ := h1
    obtain ⟨u, rfl⟩ := r.int_inv
    exact ⟨k, some i, .int i u, q⟩
theorem drop_min (l : List α) (a n : Nat) (h : l.length ≤ n) : l.drop (min a n) = l.drop a := by
  by_cases q : a ≤ n
  · rw [Nat.min_eq_left q]
  · rw [Nat.min_eq_right (by omega), List.drop_eq_nil_of_le h, List.drop_eq_nil_of_le (by omega)]
theorem take_min (l : List α) (a : Nat) : l.take (min a l.length) = l.take a := by
  by_cases q : a ≤ l.length
  · rw [Nat.min_eq_left q]
  · rw [Nat.min_eq_right (by omega), List.take_length, List.take_of_length_le (by omega)]
noncomputable def cutV (ts : List Value) (lo hi : Option Int) : List Value := ((match hi with | none => ts | some b => ts.take b.toNat).drop (match lo with | none => 0 | some a => a.toNat))
noncomputable def cutHi (ts : List α) : Option Int → List α
  | none => ts
  | some b => ts.take b.toNat
theorem cut_pick {us : List Value} (lo hi : Option Int) (h1 : ∀ a, lo = some a → 0 ≤ a) (h2 : ∀ a, hi = some a → 0 ≤ a) : slicePick us.toArray lo hi none = (cutV us lo hi).toArray := by
  rw [slicePick_plain]
  simp only [List.size_toArray]
  apply congrArg List.toArray
  rw [← List.drop_take]
  have e2 : us.take (hi.elim us.length (clipAt us.length)) = cutHi us hi := by
    cases hi with
    | none => simp [cutHi]
    | some b =>
      have := h2 b rfl
      obtain ⟨j, rfl⟩ := Int.eq_ofNat_of_zero_le this
      simp only [Option.elim, clipAt_nat, Int.toNat_natCast, cutHi]
      exact take_min us j
  rw [e2]
  have e3 : cutV us lo hi = (cutHi us hi).drop (lo.elim 0 Int.toNat) := by cases lo <;> cases hi <;> rfl
  rw [e3]
  have hl : (cutHi us hi).length ≤ us.length := by
    cases hi <;> simp [cutHi] <;> omega
  cases lo with
  | none => rfl
  | some a =>
    have := h1 a rfl
    obtain ⟨j, rfl⟩ := Int.eq_ofNat_of_zero_le this
    simp only [Option.elim, clipAt_nat, Int.toNat_natCast]
    exact drop_min _ _ _ hl
theorem cutV_rv {ln X h} {us : List Value} {ts : List AV} (r : RVs ln X h us ts) (lo hi : Option Int) : RVs ln X h (cutV us lo hi) (cut ts lo hi) := by
  unfold cutV cut
  have r' : RVs ln X h (match hi with | none => us | some b => us.take b.toNat) (match hi with | none => ts | some b => ts.take b.toNat) := by
    cases hi with
    | none => exact r
    | some b => exact r.dropTake.2 _
  exact r'.dropTake.1 _
theorem EW_slice {value lower upper p pos} (h : EW c σ value fun t => ∃ ts, t = .list ts ∧ ts.length ≤ 1000 ∧ PartW c σ lower fun lo => PartW c σ upper fun hi => (∀ a, lo = some a → 0 ≤ a) ∧ (∀ a, hi = some a → 0 ≤ a) ∧ Q (.list (cut ts lo hi)))
    (ht : ∀ o r, letTemporaryGo value o r = pure () := by intro _ _; rfl) : EW c σ (.Subscript value (.Slice lower upper none p) pos) Q := fun O X E s I => by
  refine wpAny_Subscript_list_slice (wpAny_mono (h O X E s I) (fun v s1 h1 => ?_) fun _ _ x => x) ht
  obtain ⟨k1, t, r1, ts, rfl, hl, h1⟩ := h1
  have I1 := I.kp k1.kp
  refine wpAny_mono (part_bind h1 I1) (fun vl s2 h2 => ?_) fun _ _ x => x
  obtain ⟨k2, lo, pl, h2⟩ := h2
  have I2 := I1.kp k2.kp
  refine wpAny_mono (part_bind h2 I2) (fun vu s3 h3 => ?_) fun _ _ x => x
  obtain ⟨k3, hi, pu, hlo, hhi, q⟩ := h3
  have I3 := I2.kp k3.kp
  obtain ⟨a, us, rfl, hx, l, r⟩ := RV.list_inv ((r1.keep (I1.sq k2.kp)).keep (I2.sq k3.kp))
  have hle := r.len
  refine ⟨a, us.toArray, lo, hi, rfl, l, by rw [List.size_toArray, hle, sizeLine_eq]; omega, pl, pu, ((k1.trans k2).trans k3).trans (.grow fun _ _ e => Heap.get?_push_of_some _ (Heap.get?_push_of_some _ e)), _, ?_, q⟩
  rw [cut_pick lo hi hlo hhi]
  have hz : (s3.heap.push { cls := .type "slice", data := .fields #[vl, vu, .none] }).objs.size = s3.heap.objs.size + 1 := Heap.size_push ..
  refine .list (us := cutV us lo hi) (fun hm => ?_) ?_ ((cutV_rv r lo hi).keep fun a o _ _ e => Heap.get?_push_of_some _ (Heap.get?_push_of_some _ e)) .nil
  · obtain ⟨o, e, _⟩ := I3.xs _ hm
    have := Heap.lt_size e
    exact absurd this (Nat.not_lt.mpr (Nat.le_succ _))
  · have := (IsL.new (s3.heap.push { cls := .type "slice", data := .fields #[vl, vu, .none] }) (cutV us lo hi).toArray).isList
    rw [hz] at this
    exact this
-- two lists in one
theorem Op_cat {ts ss} (hl : ts.length + ss.length ≤ 1000) (q : Q (.list (ts ++ ss))) : OpW c σ (binaryOp .Add) (.list ts) (.list ss) Q := fun O X E s v1 v2 I r1 r2 => by
  obtain ⟨a, us, rfl, hx, l, r⟩ := r1.list_inv
  obtain ⟨a', us', rfl, hx', l', r'⟩ := r2.list_inv
  have e1 := r.len
  have e2 := r'.len
  obtain ⟨⟨cls, dd, data, sl⟩, ho, hc, n, hd⟩ := l
  obtain ⟨⟨cls2, dd2, data2, sl2⟩, ho2, hc2, n2, hd2⟩ := l'
  simp only at hc hd hc2 hd2
  subst hc hd hc2 hd2
  have e : us.toArray ++ us'.toArray = (us ++ us').toArray := by simp
  refine concat_meets ⟨_, ho, rfl⟩ ⟨_, ho2, rfl⟩ noFill_list_add seq_list_add PySem.F.slot_list_add PySem.F.entry_list_add (PySem.F.args_list_add_2 _ _) (list_addW a a' us.toArray us'.toArray n n2 dd dd2 sl sl2 (by simp only [List.size_toArray]; rw [e1, e2, sizeLine_eq]; omega)) ⟨ho, ho2, ?_⟩
  rw [e]
  exact ⟨.push _, _, .list (fresh_notin I) (IsL.new _ _).isList ((r.app r').keep fun a o _ _ e => Heap.get?_push_of_some _ e) .nil, q⟩

theorem RVs.ints {ln X h} : ∀ {vs : List Value} {ns : List Int}, RVs ln X h vs (ns.map AV.int) → IntsAre vs ns
  | [], [], _ => .nil
  | v :: vs, n :: ns, r => by
    obtain ⟨t, rfl⟩ := RV.int_inv (RVs.head r)
    exact .cons n t (RVs.ints (RVs.tail r))
  | [], n :: ns, r => by cases r
  | v :: vs, [], r => by cases r
theorem RVs.ofInts {ln X h} : ∀ {vs : List Value} {ns : List Int}, IntsAre vs ns → RVs ln X h vs (ns.map AV.int)
  | _, _, .nil => .nil
  | _, _, .cons n t r => .int (RVs.ofInts r)
theorem Op_eqL {k} {ns ms : List Int} (R : Rm c.A k) (q : Q (.bool (decide (ns = ms)))) : OpW c σ (compareOp .Eq) (.list (ns.map AV.int)) (.list (ms.map AV.int)) Q := fun O X E s v1 v2 I r1 r2 => by
  obtain ⟨a, us, rfl, hx, l, r⟩ := r1.list_inv
  obtain ⟨a', us', rfl, hx', l', r'⟩ := r2.list_inv
  exact PySem.W.eq_intsK l (RVs.ints r) l' (RVs.ints r') (by have := R.un; show c.A.units + 64 < 9900; omega) ⟨.refl, _, .bool .nil, q⟩
theorem Op_neL {k} {ns ms : List Int} (R : Rm c.A k) (q : Q (.bool (!decide (ns = ms)))) : OpW c σ (compareOp .NotEq) (.list (ns.map AV.int)) (.list (ms.map AV.int)) Q := fun O X E s v1 v2 I r1 r2 => by
  obtain ⟨a, us, rfl, hx, l, r⟩ := r1.list_inv
  obtain ⟨a', us', rfl, hx', l', r'⟩ := r2.list_inv
  exact PySem.W.ne_intsK l (RVs.ints r) l' (RVs.ints r') (by have := R.un; show c.A.units + 64 < 9900; omega) ⟨.refl, _, .bool .nil, q⟩

theorem preSum_list (ns : List Int) : ∀ n, n ≤ ns.length → PySem.preSum (fun i => ns.getD i 0) n = (ns.take n).sum := by
  intro n
  induction n with
  | zero => intro _; rfl
  | succ n ih =>
    intro h
    rw [List.take_succ_eq_append_getElem h, List.sum_append]
    show PySem.preSum _ n + _ = _
    rw [ih (by omega)]
    simp [List.getD]
    rw [List.getElem?_eq_getElem h]; rfl
theorem BiW_sum {k} {ns : List Int} (R : Rm c.A k) (q : Q (.int ns.sum)) : BiW c σ (.builtin "sum") [.list (ns.map AV.int)] Q := fun O X E s vs I r => by
  cases r with
  | list hx l r' r'' =>
    cases r''
    rename_i a us
    have hlt : a < s.heap.objs.size := let ⟨o, e, _⟩ := l; Heap.lt_size e
    refine PySem.call_sum_walkG (wpAny_pyIter_list l ?_)
    refine ⟨_, _, _, us.toArray.size, _, _, fun i => ns.getD i 0, rfl, Walks.list (A := c.A.in1) R.hd s.heap.objs.size a (Nat.ne_of_lt hlt) us.toArray, ⟨⟨_, Heap.get?_push_size _ rfl, rfl, rfl⟩, l.push _⟩, ?_, ?_, ?_⟩
    · intro b hb
      rw [Heap.size_push]
      simp only [List.mem_cons, List.not_mem_nil, or_false] at hb
      rcases hb with rfl | rfl
      · exact Nat.lt_succ_self _
      · exact Nat.lt_succ_of_lt hlt
    · intro i v hv
      have hv' : us[i]? = some v := by simpa using hv
      obtain ⟨t, e, rt⟩ := r'.get hv'
      simp only [List.getElem?_map] at e
      obtain ⟨x, ex, rfl⟩ := Option.map_eq_some_iff.mp e
      obtain ⟨tk, rfl⟩ := rt.int_inv
      exact ⟨tk, by simp [List.getD, ex]⟩
    · intro h' tk t' hk
      have e : us.length = ns.length := by simpa using r'.len
      have es : PySem.preSum (fun i => ns.getD i 0) us.toArray.size = ns.sum := by
        rw [List.size_toArray, e, preSum_list ns _ (Nat.le_refl _), List.take_length]
      rw [es]
      refine ⟨⟨h', tk, rfl, .grow fun b o eb => hk b o ?_ (Heap.get?_push_of_some _ eb)⟩, _, .int .nil, q⟩
      intro hm
      simp only [List.mem_cons, List.not_mem_nil, or_false] at hm
      exact absurd (Heap.lt_size eb) (by rw [hm]; exact Nat.lt_irrefl _)
end
end Mine
end B3_part
section B4_part
open PySem PySem.Calls PyProof.Rows
namespace Mine

/-- all data objects are kept -/
noncomputable def Dt (h h' : Heap) : Prop := ∀ a o, isData o = true → h.get? a = some o → h'.get? a = some o
theorem Dt.sq {X h h'} (d : Dt h h') : Sq X h h' := fun a o _ q e => d a o q e
theorem Dt.but {b h h'} {o : Obj} (s : Heap.SameBut b h h') (e : h.get? b = some o) (d : isData o = false) : Dt h h' := fun a o' q e' => by
  refine (s.2 a ?_).trans e'
  rintro rfl
  rw [e] at e'; cases e'; rw [d] at q; cases q
theorem Dt.list {h h' : Heap} {a us} (d : Dt h h') (l : h.IsList a us) : h'.IsList a us := by
  obtain ⟨o, e, c, n, e2⟩ := l
  exact ⟨o, d a o (by unfold isData; rw [e2]) e, c, n, e2⟩
theorem LineOk.dt {X h h' l} (d : Dt h h') (x : LineOk X h l) : LineOk X h' l := by
  obtain ⟨xa, k, t, vs, is, a, b, c, r⟩ := x
  exact ⟨xa, k, t, vs, is, d.list a, b, d.list c, r⟩
theorem LRel.dt {ln O X h h' v t} (d : Dt h h') (r : LRel ln O X h v t) : LRel ln O X h' v t := by
  cases t with
  | val t => exact RVs.keep d.sq r
  | own pl ts =>
    obtain ⟨a, us, e, hx, hl, l, p, q⟩ := r
    exact ⟨a, us, e, hx, hl, d.list l, fun z => (p z).at fun o e => d a o (by obtain ⟨n, z⟩ := p z; rw [z] at e; cases e; rfl) e, q.keep d.sq⟩
theorem Ns.uni {h : Heap} {L : Addr} {m m'} (a : h.Ns L m) (b : h.Ns L m') : m = m' := by
  obtain ⟨o, es, ep, e, d, _, f⟩ := a
  obtain ⟨o', es', ep', e', d', _, f'⟩ := b
  rw [e] at e'; cases e'
  rw [d] at d'; cases d'
  funext x
  rw [← f, ← f']
theorem IsCell.uni {h : Heap} {c : Addr} {v v'} (a : h.IsCell c v) (b : h.IsCell c v') : v = v' := by
  obtain ⟨o, e, d⟩ := a
  obtain ⟨o', e', d'⟩ := b
  rw [e] at e'; cases e'
  rw [d] at d'; cases d'; rfl

/-- where a name's value lies -/
noncomputable def Slot (env : Env) (x : Str) (b : Addr) : Prop := (env.kindOf x = some .local ∧ b = env.locals) ∨ (env.kindOf x = some .cell ∧ env.cells.lookup x = some b)

theorem lookup_uni {l : List (Str × Addr)} (hp : l.Pairwise fun x y => x.2 ≠ y.2) {x y : Str} {c : Addr} (a : l.lookup x = some c) (b : l.lookup y = some c) : x = y :=
  name_of_addr hp (mem_of_lookup a) (mem_of_lookup b)

section
variable {base : Heap} {env : Env} {ln : Option Addr} {O X : List Addr} {σ : Sg}

theorem not_ns_cell {h : Heap} {a : Addr} {m v} (n : h.Ns a m) (c : h.IsCell a v) : False := by
  obtain ⟨o1, e1, es, ep, d1, _⟩ := n
  obtain ⟨o2, e2, d2⟩ := c
  simp_all

theorem Inv.putL {h h' : Heap} {x : Str} {v : Value} {t : LV} {m} (I : Inv base env ln O X σ h) (r : LRel ln O X h v t) (hk : env.kindOf x = some .local) (hb : base.get? env.locals = none)
    (n : h.Ns env.locals m) (n' : h'.Ns env.locals fun y => if y = x then some v else m y) (s : Heap.SameBut env.locals h h') : Inv base env ln O X ((x, t) :: σ) h' := by
  obtain ⟨o, e, d⟩ := Heap.Ns.obj n
  have D : Dt h h' := .but s e d
  have hc : ∀ c w, h.IsCell c w → h'.IsCell c w := fun c w q => q.sameBut s fun z => not_ns_cell n (z ▸ q)
  refine { fk := I.fk, gl := I.gl, ns := ⟨_, n'⟩, rd := fun y t' g => ?_, cs := fun y c q => let ⟨w, z⟩ := I.cs y c q; ⟨w, hc c w z⟩, ap := I.ap, ox := I.ox, ob := I.ob, xs := fun a hx => let ⟨o', e', d'⟩ := I.xs a hx; ⟨o', D a o' d' e', d'⟩, bs := fun b o' e' => ?_, li := fun l hl => let ⟨q1, q2, q3⟩ := I.li l hl; ⟨q1, q2.dt D, q3⟩ }
  · unfold Sg.get at g
    split at g
    · rename_i q; subst q; cases g
      exact ⟨v, .inl ⟨hk, _, n', by simp⟩, r.dt D⟩
    · rename_i ne
      obtain ⟨v', rd', r'⟩ := I.rd y t' g
      refine ⟨v', ?_, r'.dt D⟩
      rcases rd' with ⟨hk', m', q, em⟩ | ⟨hk', c, l, q⟩
      · cases Ns.uni q n
        exact .inl ⟨hk', _, n', by rw [if_neg (fun z => ne z.symm)]; exact em⟩
      · exact .inr ⟨hk', c, l, hc c _ q⟩
  · refine (s.2 b ?_).trans (I.bs b o' e')
    rintro rfl
    rw [hb] at e'; cases e'
theorem Inv.putC {h h' : Heap} {x : Str} {v : Value} {t : LV} {b : Addr} (I : Inv base env ln O X σ h) (r : LRel ln O X h v t) (hk : env.kindOf x = some .cell) (hl : env.cells.lookup x = some b) (hb : base.get? b = none)
    (n' : h'.IsCell b (some v)) (s : Heap.SameBut b h h') : Inv base env ln O X ((x, t) :: σ) h' := by
  obtain ⟨w0, n⟩ := I.cs x b (mem_of_lookup hl)
  obtain ⟨o, e, d⟩ := Heap.IsCell.obj n
  have D : Dt h h' := .but s e d
  have hc : ∀ y c w, (y, c) ∈ env.cells → y ≠ x → h.IsCell c w → h'.IsCell c w := fun y c w q ne z => z.sameBut s fun p => ne (name_of_addr I.ap q (p ▸ mem_of_lookup hl))
  have hn : ∀ m, h.Ns env.locals m → h'.Ns env.locals m := fun m q => q.sameBut s fun p => not_ns_cell q (p ▸ n)
  refine { fk := I.fk, gl := I.gl, ns := let ⟨m, q⟩ := I.ns; ⟨m, hn m q⟩, rd := fun y t' g => ?_, cs := fun y c q => ?_, ap := I.ap, ox := I.ox, ob := I.ob, xs := fun a hx => let ⟨o', e', d'⟩ := I.xs a hx; ⟨o', D a o' d' e', d'⟩, bs := fun b' o' e' => ?_, li := fun l hl => let ⟨q1, q2, q3⟩ := I.li l hl; ⟨q1, q2.dt D, q3⟩ }
  · unfold Sg.get at g
    split at g
    · rename_i q; subst q; cases g
      exact ⟨v, .inr ⟨.inl hk, b, hl, n'⟩, r.dt D⟩
    · rename_i ne
      obtain ⟨v', rd', r'⟩ := I.rd y t' g
      refine ⟨v', ?_, r'.dt D⟩
      rcases rd' with ⟨hk', m', q, em⟩ | ⟨hk', c, l, q⟩
      · exact .inl ⟨hk', m', hn m' q, em⟩
      · exact .inr ⟨hk', c, l, hc y c _ (mem_of_lookup l) (fun z => ne z.symm) q⟩
  · obtain ⟨w, z⟩ := I.cs y c q
    by_cases p : c = b
    · subst p; exact ⟨_, n'⟩
    · exact ⟨w, z.sameBut s p⟩
  · refine (s.2 b' ?_).trans (I.bs b' o' e')
    rintro rfl
    rw [hb] at e'; cases e'

/-- what holds of a σ holds of a lesser one -/
noncomputable def Sg.le (σ' σ : Sg) : Prop := ∀ x t, σ'.get x = some t → σ.get x = some t
theorem Sg.le_refl {σ : Sg} : Sg.le σ σ := fun _ _ e => e
theorem Sg.le_nil {σ : Sg} : Sg.le [] σ := fun _ _ e => nomatch e
theorem Sg.le_cons {σ' σ : Sg} {x t} (h : σ.get x = some t) (r : Sg.le σ' σ) : Sg.le ((x, t) :: σ') σ := fun y u e => by
  unfold Sg.get at e
  split at e
  · rename_i q; subst q; cases e; exact h
  · exact r y u e
theorem Inv.le {σ' : Sg} {h : Heap} (I : Inv base env ln O X σ h) (l : Sg.le σ' σ) : Inv base env ln O X σ' h := { I with rd := fun x t e => I.rd x t (l x t e) }
end

/-- the places of a frame lie in no older heap -/
structure Lo (base : Heap) (env : Env) : Prop where
  l : base.get? env.locals = none
  c : ∀ y c, (y, c) ∈ env.cells → base.get? c = none
theorem Lo.at {base : Heap} {env : Env} (L : Lo base env) {x b} (sl : Slot env x b) : base.get? b = none := by
  rcases sl with ⟨_, rfl⟩ | ⟨_, l⟩
  · exact L.l
  · exact L.c x b (mem_of_lookup l)

section
variable {M : Model} {A : Around} {E : Value → Shared → Prop} {s : Shared} {base : Heap} {env : Env} {ln : Option Addr} {O X : List Addr} {σ : Sg}
theorem store1 {x : Str} {v : Value} {t : LV} {b : Addr} {Q : Unit → Shared → Prop} (L : Lo base env) (I : Inv base env ln O X σ s.heap) (r : LRel ln O X s.heap v t) (sl : Slot env x b)
    (h : ∀ h' tk, Inv base env ln O X ((x, t) :: σ) h' → Heap.SameBut b s.heap h' → Q () { s with heap := h', toks := tk }) : wpAny M A (storeName env x v) Q E s := by
  have hb := L.at sl
  rcases sl with ⟨hk, rfl⟩ | ⟨hk, l⟩
  · obtain ⟨m, n⟩ := I.ns
    refine wpAny_storeName_local hk n (fun h' n' s' => h h' _ (I.putL r hk hb n n' s') s') ?_
    rw [I.fk]; rfl
  · obtain ⟨w, n⟩ := I.cs x b (mem_of_lookup l)
    exact wpAny_storeName_cell I.fk hk l n fun h' n' s' => h h' _ (I.putC r hk l hb n' s') s'
end

/-- the places that a frame's statements may change -/
noncomputable def Mut (env : Env) (O : List Addr) (b : Addr) : Prop := b = env.locals ∨ (∃ y, (y, b) ∈ env.cells) ∨ b ∈ O
structure KpS (env : Env) (ln : Option Addr) (O : List Addr) (h h' : Heap) : Prop where
  keep : ∀ b o, ¬ Mut env O b → ln ≠ some b → h.get? b = some o → h'.get? b = some o
  live : ∀ b o, h.get? b = some o → ∃ o', h'.get? b = some o'
  line : ∀ l Y, ln = some l → LineOk Y h l → LineOk Y h' l

/-- how the places to be avoided grow -/
structure Gr (O X O' X' : List Addr) (h : Heap) : Prop where
  ho : ∀ b ∈ O', b ∈ O ∨ h.get? b = none
  hx : ∀ b ∈ X, b ∈ X'
  hn : ∀ b ∈ X', b ∈ X ∨ h.get? b = none
theorem Gr.refl {O X h} : Gr O X O X h := ⟨fun _ m => .inl m, fun _ m => m, fun _ m => .inl m⟩
inductive Out where
  | next (σ : Sg)
  | ret (t : AV)
noncomputable def SPost (c : Cx) (O X : List Addr) (s : Shared) (Q : Out → Prop) : Flow → Shared → Prop := fun fl s' =>
  (∃ h' tk, s' = { s with heap := h', toks := tk }) ∧ KpS c.env c.ln O s.heap s'.heap ∧
  match fl with
  | .next => ∃ O' X' σ', Inv c.base c.env c.ln O' X' σ' s'.heap ∧ Gr O X O' X' s.heap ∧ Q (.next σ')
  | .ret v => ∃ t Xr, RV c.ln Xr s'.heap v t ∧ (∀ b ∈ X, b ∈ Xr ∨ b ∈ O) ∧ Q (.ret t)
  | _ => False
noncomputable def SW (c : Cx) (σ : Sg) (st : Stmt) (Q : Out → Prop) : Prop :=
  ∀ (O X : List Addr) (E : Value → Shared → Prop) (s : Shared), Lo c.base c.env → Inv c.base c.env c.ln O X σ s.heap → wpAny (model c.prog c.w) c.A (exec st c.env) (SPost c O X s Q) E s
noncomputable def SWs (c : Cx) (σ : Sg) (sts : List Stmt) (Q : Out → Prop) : Prop :=
  ∀ (O X : List Addr) (E : Value → Shared → Prop) (s : Shared), Lo c.base c.env → Inv c.base c.env c.ln O X σ s.heap → wpAny (model c.prog c.w) c.A (execs sts c.env) (SPost c O X s Q) E s

section
variable {c : Cx} {σ : Sg} {Q : Out → Prop}
theorem KpS.refl {env ln O X σ base h} (I : Inv base env ln O X σ h) : KpS env ln O h h := ⟨fun _ _ _ _ e => e, fun _ o e => ⟨o, e⟩, fun l Y e x => x⟩
theorem KpS.of {env ln O X σ base h h'} (I : Inv base env ln O X σ h) (k : KpH ln h h') : KpS env ln O h h' := by
  refine ⟨fun b o _ n e => k.keep b o n e, fun b o e => ?_, k.line⟩
  by_cases q : ln = some b
  · obtain ⟨o', e', _⟩ := (k.line b X q (I.li b q).2.1).obj
    exact ⟨o', e'⟩
  · exact ⟨o, k.keep b o q e⟩
theorem KpS.but {env ln O X σ base h h' b} (I : Inv base env ln O X σ h) (m : Mut env O b) (s : Heap.SameBut b h h') (hv : ∃ o', h'.get? b = some o') (hl : ∀ l Y, ln = some l → LineOk Y h l → LineOk Y h' l) : KpS env ln O h h' :=
  ⟨fun b' o n _ e => (s.2 b' (fun q => n (q ▸ m))).trans e, fun b' o e => by
    by_cases q : b' = b
    · exact q ▸ hv
    · exact ⟨o, (s.2 b' q).trans e⟩, hl⟩
theorem LineOk.weak {X X' h l} (x : LineOk X' h l) (s : ∀ b ∈ X, b ∈ X') : LineOk X h l := by
  obtain ⟨xa, k, t, vs, is, a, b, r⟩ := x
  exact ⟨xa, k, t, vs, is, a, fun q => b (s _ q), r⟩
theorem KpS.trans {env ln O O' h h' h''} (a : KpS env ln O h h') (b : KpS env ln O' h' h'') (ho : ∀ b ∈ O', b ∈ O ∨ h.get? b = none) : KpS env ln O h h'' := by
  refine ⟨fun d o n q e => b.keep d o (fun m => n ?_) q (a.keep d o n q e), fun d o e => ?_, fun l Y e x => b.line l Y e (a.line l Y e x)⟩
  · rcases m with m | m | m
    · exact .inl m
    · exact .inr (.inl m)
    · rcases ho d m with z | z
      · exact .inr (.inr z)
      · rw [z] at e; cases e
  · obtain ⟨o', e'⟩ := a.live d o e
    exact b.live d o' e'
theorem RVs.weak {ln X X' h vs ts} (r : RVs ln X' h vs ts) (s : ∀ b ∈ X, b ∈ X') : RVs ln X h vs ts := r.mono (fun _ _ _ _ e => e) fun a q => .inl (s a q)
theorem SPost.up {O X O' X' s s' fl s''} (hs : ∃ h' tk, s' = { s with heap := h', toks := tk }) (k : KpS c.env c.ln O s.heap s'.heap) (g : Gr O X O' X' s.heap) (xs : ∀ b ∈ X, ∃ o, s.heap.get? b = some o ∧ isData o = true) (p : SPost c O' X' s' Q fl s'') : SPost c O X s Q fl s'' := by
  obtain ⟨⟨h2, t2, rfl⟩, k2, p⟩ := p
  obtain ⟨h1, t1, rfl⟩ := hs
  refine ⟨⟨h2, t2, rfl⟩, k.trans k2 g.ho, ?_⟩
  have bk : ∀ b, h1.get? b = none → s.heap.get? b = none := fun b z => by
    cases e : s.heap.get? b with
    | none => rfl
    | some o =>
      obtain ⟨o', e'⟩ := k.live b o e
      have e'' : h1.get? b = some o' := e'
      rw [z] at e''; cases e''
  cases fl with
  | next =>
    obtain ⟨O2, X2, σ', I, g2, q⟩ := p
    exact ⟨O2, X2, σ', I, ⟨fun b m => (g2.ho b m).elim (g.ho b) fun z => .inr (bk b z), fun b m => g2.hx b (g.hx b m), fun b m => (g2.hn b m).elim (g.hn b) fun z => .inr (bk b z)⟩, q⟩
  | ret v =>
    obtain ⟨t, Xr, r, h3, q⟩ := p
    refine ⟨t, Xr, r, fun b m => ?_, q⟩
    rcases h3 b (g.hx b m) with z | z
    · exact .inl z
    · rcases g.ho b z with z | z
      · exact .inr z
      · obtain ⟨o, e, _⟩ := xs b m
        rw [z] at e; cases e
  | brk => exact p
  | cont => exact p
theorem Kp.same {ln s s'} (k : Kp ln s s') : ∃ h' tk, s' = { s with heap := h', toks := tk } := let ⟨h', tk, e, _⟩ := k; ⟨h', tk, e⟩
theorem SPost.upK {O X s s' fl s''} (I : Inv c.base c.env c.ln O X σ s.heap) (k : Kp c.ln s s') (p : SPost c O X s' Q fl s'') : SPost c O X s Q fl s'' :=
  SPost.up k.same (.of I k.kp) .refl I.xs p

theorem SWs_nil (q : Q (.next σ)) : SWs c σ [] Q := fun O X E s L I => wpAny_execs_nil ⟨⟨s.heap, s.toks, rfl⟩, .refl I, O, X, σ, I, .refl, q⟩
theorem SWs_cons {st rest} (h : SW c σ st fun o => match o with | .next σ' => SWs c σ' rest Q | .ret t => Q (.ret t)) : SWs c σ (st :: rest) Q := fun O X E s L I => by
  refine wpAny_execs_cons (wpAny_mono (h O X E s L I) (fun fl s1 h1 => ?_) fun _ _ x => x)
  obtain ⟨hs, k, h1⟩ := h1
  cases fl with
  | next =>
    obtain ⟨O', X', σ', I', g, h1⟩ := h1
    exact wpAny_mono (h1 O' X' E s1 L I') (fun _ _ p => SPost.up hs k g I.xs p) fun _ _ x => x
  | ret v => exact ⟨hs, k, h1⟩
  | brk => exact h1.elim
  | cont => exact h1.elim
theorem SWs_le {σ' sts} (l : Sg.le σ' σ) (h : SWs c σ' sts Q) : SWs c σ sts Q := fun O X E s L I => h O X E s L (I.le l)
theorem SW_mono {st} {Q' : Out → Prop} (h : SW c σ st Q) (q : ∀ o, Q o → Q' o) : SW c σ st Q' := fun O X E s L I => wpAny_mono (h O X E s L I) (fun fl s' p => by
  obtain ⟨a, b, p⟩ := p
  refine ⟨a, b, ?_⟩
  cases fl with
  | next => obtain ⟨O', X', σ', I', g, h1⟩ := p; exact ⟨O', X', σ', I', g, q _ h1⟩
  | ret v => obtain ⟨t, Xr, r, h3, h1⟩ := p; exact ⟨t, Xr, r, h3, q _ h1⟩
  | brk => exact p
  | cont => exact p) fun _ _ x => x
theorem SWs_mono {sts} {Q' : Out → Prop} (h : SWs c σ sts Q) (q : ∀ o, Q o → Q' o) : SWs c σ sts Q' := fun O X E s L I => wpAny_mono (h O X E s L I) (fun fl s' p => by
  obtain ⟨a, b, p⟩ := p
  refine ⟨a, b, ?_⟩
  cases fl with
  | next => obtain ⟨O', X', σ', I', g, h1⟩ := p; exact ⟨O', X', σ', I', g, q _ h1⟩
  | ret v => obtain ⟨t, Xr, r, h3, h1⟩ := p; exact ⟨t, Xr, r, h3, q _ h1⟩
  | brk => exact p
  | cont => exact p) fun _ _ x => x

theorem SW_ret {e pos} (h : EW c σ e fun t => Q (.ret t)) : SW c σ (.Return (some e) pos) Q := fun O X E s L I =>
  wpAny_Return_some (wpAny_mono (h O X E s I) (fun v s1 ⟨k, t, r, q⟩ => ⟨k.same, .of I k.kp, t, X, r, fun _ m => .inl m, q⟩) fun _ _ x => x)
theorem SW_if {t b o pos} (h : TW c σ t fun x => if x then SWs c σ b Q else SWs c σ o Q) : SW c σ (.If t b o pos) Q := fun O X E s L I => by
  refine wpAny_If (wpAny_mono (h O X E s I) (fun x s1 h1 => ?_) fun _ _ x => x)
  obtain ⟨k, h1⟩ := h1
  have I1 := I.kp k.kp
  cases x <;> exact wpAny_mono (h1 O X E s1 L I1) (fun _ _ p => SPost.upK I k p) fun _ _ x => x
/-- after a store -/
theorem SPost.put {O X s s' h' tk x t b} (I : Inv c.base c.env c.ln O X σ s.heap) (k : Kp c.ln s s') (sl : Slot c.env x b) (I' : Inv c.base c.env c.ln O X ((x, t) :: σ) h') (sb : Heap.SameBut b s'.heap h') (q : Q (.next ((x, t) :: σ))) :
    SPost c O X s Q .next { s' with heap := h', toks := tk } := by
  refine SPost.upK I k ⟨⟨h', tk, rfl⟩, .but (I.kp k.kp) ?_ sb ?_ ?_, O, X, _, I', .refl, q⟩
  · rcases sl with ⟨_, rfl⟩ | ⟨_, l⟩
    · exact .inl rfl
    · exact .inr (.inl ⟨x, mem_of_lookup l⟩)
  · rcases sl with ⟨_, rfl⟩ | ⟨_, l⟩
    · obtain ⟨m, n⟩ := I'.ns; obtain ⟨o, e, _⟩ := Heap.Ns.obj n; exact ⟨o, e⟩
    · obtain ⟨m, n⟩ := I'.cs x b (mem_of_lookup l); obtain ⟨o, e, _⟩ := Heap.IsCell.obj n; exact ⟨o, e⟩
  · have I1 := I.kp k.kp
    have hobj : ∃ o, s'.heap.get? b = some o ∧ isData o = false := by
      rcases sl with ⟨_, rfl⟩ | ⟨_, l⟩
      · obtain ⟨m, n⟩ := I1.ns; exact Heap.Ns.obj n
      · obtain ⟨m, n⟩ := I1.cs x b (mem_of_lookup l); exact Heap.IsCell.obj n
    obtain ⟨o, e, d⟩ := hobj
    exact fun l Y _ x => x.dt (.but sb e d)
theorem SW_asg {x px e pos b} (sl : Slot c.env x b) (h : EW c σ e fun t => Q (.next ((x, .val t) :: σ))) (hs : ∀ env, swapsWith e (some (.Name x px)) pos.line env = pure false := by intro _; rfl) : SW c σ (.Assign [.Name x px] e pos) Q := fun O X E s L I => by
  refine wpAny_Assign_Name (wpAny_mono (h O X E s I) (fun v s1 h1 => ?_) fun _ _ x => x) (hs _)
  obtain ⟨k, t, r, q⟩ := h1
  exact store1 L (I.kp k.kp) (t := .val t) r sl fun h' tk I' sb => SPost.put I k sl I' sb q
theorem SW_aug {x px op e pos b} {t0 : AV} (sl : Slot c.env x b) (hg : σ.get x = some (.val t0)) (h : EW c σ e fun t1 => OpW c σ (inplaceOp op) t0 t1 fun t => Q (.next ((x, .val t) :: σ))) (hc : (x == ("__classdict__" : Str)) = false := by decide) : SW c σ (.AugAssign (.Name x px) op e pos) Q := fun O X E s L I => by
  obtain ⟨v, rd, l⟩ := I.rd x _ hg
  have go : wpAny (model c.prog c.w) c.A (eval e c.env) (fun v1 s2 => wpAny (model c.prog c.w) c.A (inplaceOp op v v1) (fun r s3 => wpAny (model c.prog c.w) c.A (storeName c.env x r) (fun _ => SPost c O X s Q .next) E s3) E s2) E s := by
    refine wpAny_mono (h O X E s I) (fun v1 s1 h1 => ?_) fun _ _ x => x
    obtain ⟨k1, t1, r1, h1⟩ := h1
    have I1 := I.kp k1.kp
    refine wpAny_mono (h1 O X E s1 v v1 I1 (RVs.keep (I.sq k1.kp) l) r1) (fun u s2 h2 => ?_) fun _ _ x => x
    obtain ⟨k2, t, r, q⟩ := h2
    exact store1 L (I1.kp k2.kp) (t := .val t) r sl fun h' tk I' sb => SPost.put I (k1.trans k2) sl I' sb q
  refine wpAny_AugAssign_Name ?_
  rcases rd with ⟨a, m, n, e⟩ | ⟨a | a, ca, l', n⟩
  · exact wpAny_loadName_local I.fk a n e go
  · exact wpAny_loadName_cell I.fk a l' n go
  · exact wpAny_loadName_free I.fk a l' n go hc
end
end Mine
end B4_part
section B5_part
open PySem PySem.Calls PyProof.Rows
namespace Mine

section
variable {c : Cx} {σ : Sg} {Q : Out → Prop}

/-- a fresh list -/
noncomputable def EWF (c : Cx) (σ : Sg) (e : Expr) (R : List AV → Prop) : Prop :=
  ∀ (O X : List Addr) (E : Value → Shared → Prop) (s : Shared), Inv c.base c.env c.ln O X σ s.heap →
    wpAny (model c.prog c.w) c.A (eval e c.env) (fun v s' => Kp c.ln s s' ∧ ∃ a us ts, v = .ref a ∧ s.heap.get? a = none ∧ a ∉ X ∧ s'.heap.PlainList a (List.toArray us) ∧ RVs c.ln (a :: X) s'.heap us ts ∧ R ts) E s
theorem get_size (h : Heap) : h.get? h.objs.size = none := by
  cases e : h.get? h.objs.size with
  | none => rfl
  | some o => exact absurd (Heap.lt_size e) (Nat.lt_irrefl _)
theorem EWF.ew {e} {R : List AV → Prop} {P : AV → Prop} (h : EWF c σ e R) (q : ∀ ts, R ts → P (.list ts)) : EW c σ e P := fun O X E s I =>
  wpAny_mono (h O X E s I) (fun v s' ⟨k, a, us, ts, e, _, hx, l, r, p⟩ => ⟨k, _, by subst e; exact .list hx l.isList (r.weak fun _ m => .tail _ m) .nil, q ts p⟩) fun _ _ x => x
theorem EWF_list {es pos} {R : List AV → Prop} (h : EsW c σ es fun ts => ts.length ≤ 1000 ∧ R ts) : EWF c σ (.List es pos) R := fun O X E s I => by
  refine wpAny_List_spliced (wpAny_mono (h O X E s pos I) (fun vs s1 h1 => ?_) fun _ _ x => x)
  obtain ⟨k1, ts, r, hl, q⟩ := h1
  refine ⟨by rw [r.len, sizeLine_eq]; omega, k1.trans (.push _), _, vs, ts, rfl, ?_, fresh_notin (I.kp k1.kp), ⟨0, Heap.get?_push_size _ rfl⟩, r.mono ?_ ?_, q⟩
  · cases e : s.heap.get? s1.heap.objs.size with
    | none => rfl
    | some o =>
      obtain ⟨o', e'⟩ := (KpS.of I k1.kp).live _ o e
      exact absurd (Heap.lt_size e') (Nat.lt_irrefl _)
  · exact fun a o _ _ e => Heap.get?_push_of_some _ e
  · intro b m
    rcases List.mem_cons.mp m with rfl | m
    · exact .inr (get_size _)
    · exact .inl m

/-- a fresh list becomes the frame's own -/
theorem Inv.own {base env ln O X h h' a} (I : Inv base env ln O X σ h) (k : KpH ln h h') (hf : h.get? a = none) (hd : ∃ o, h'.get? a = some o ∧ isData o = true) : Inv base env ln (a :: O) (a :: X) σ h' := by
  have I' := I.kp k
  have hm : ∀ b ∈ a :: X, b ∈ X ∨ h.get? b = none := fun b m => by
    rcases List.mem_cons.mp m with rfl | m
    · exact .inr hf
    · exact .inl m
  refine { fk := I.fk, gl := I.gl, ns := I'.ns, rd := fun x t e => ?_, cs := I'.cs, ap := I.ap, ox := fun b m => ?_, ob := fun b m => ?_, xs := fun b m => ?_, bs := I'.bs, li := fun l e => ?_ }
  · obtain ⟨v, r, q⟩ := I.rd x t e
    refine ⟨v, r.kp I k, ?_⟩
    cases t with
    | val t => exact RVs.mono (I.sq k) hm q
    | own pl ts =>
      obtain ⟨b, us, e', ho, hl, l, p, r'⟩ := q
      exact ⟨b, us, e', .tail _ ho, hl, l.at fun o => k.keep _ o hl, fun z => (p z).at fun o => k.keep _ o hl, r'.mono (I.sq k) hm⟩
  · rcases List.mem_cons.mp m with rfl | m
    · exact .head _
    · exact .tail _ (I.ox b m)
  · rcases List.mem_cons.mp m with rfl | m
    · cases e : base.get? b with
      | none => rfl
      | some o => have := I.bs b o e; rw [hf] at this; cases this
    · exact I.ob b m
  · rcases List.mem_cons.mp m with rfl | m
    · exact hd
    · exact I'.xs b m
  · obtain ⟨m, lo, b⟩ := I.li l e
    refine ⟨.tail _ m, ?_, b⟩
    have q : LineOk (a :: X) h l := by
      obtain ⟨xa, kk, t, vs, is, l1, nx, l2, r⟩ := lo
      refine ⟨xa, kk, t, vs, is, l1, fun m' => ?_, l2, r⟩
      rcases List.mem_cons.mp m' with rfl | m'
      · obtain ⟨o, e', _⟩ := l2
        rw [hf] at e'; cases e'
      · exact nx m'
    exact k.line l _ e q

theorem IsList.uni {h : Heap} {a us us'} (x : h.IsList a us) (y : h.IsList a us') : us = us' := by
  obtain ⟨o, e, _, n, d⟩ := x
  obtain ⟨o', e', _, n', d'⟩ := y
  rw [e] at e'; cases e'
  rw [d] at d'; cases d'; rfl
theorem LineOk.uni {X Y h l} (x : LineOk X h l) (y : LineOk Y h l) {a} (hm : a ∈ X) {h'} (s : Heap.SameBut a h h') (hl : l ≠ a) : LineOk Y h' l := by
  obtain ⟨xa, k, t, vs, is, a1, nx, a2, r⟩ := x
  obtain ⟨xa', k', t', vs', is', b1, ny, b2, r'⟩ := y
  have e := IsList.uni a1 b1
  have e2 : xa = xa' := by injection e with e; injection e with e; injection e
  subst e2
  have ne : xa ≠ a := fun q => nx (q ▸ hm)
  exact ⟨xa, k', t', vs', is', b1.at fun o q => (s.2 l hl).trans q, ny, b2.at fun o q => (s.2 xa ne).trans q, r'⟩
/-- the frame's own list is changed -/
theorem Inv.setOwn {base env ln O X h h' x a us' ts' pl} (I : Inv base env ln O X σ h) (ho : a ∈ O) (hl : ln ≠ some a) (rd : Rd env h x (.ref a)) (s : Heap.SameBut a h h') (l' : h'.IsList a (List.toArray us'))
    (pl' : pl = true → h'.PlainList a (List.toArray us')) (r : RVs ln X h us' ts') (one : ∀ y p u, σ.get y = some (.own p u) → y = x) (hd : ∃ o, h.get? a = some o ∧ isData o = true) :
    Inv base env ln O X ((x, .own pl ts') :: σ) h' := by
  have hx : a ∈ X := I.ox a ho
  have sq : Sq X h h' := fun b o hb _ e => (s.2 b (fun q => hb (q ▸ hx))).trans e
  obtain ⟨oa, ea, da⟩ := hd
  have nd : ∀ b o, h.get? b = some o → isData o = false → h'.get? b = some o := fun b o e d => (s.2 b (fun q => by subst q; rw [ea] at e; cases e; rw [da] at d; cases d)).trans e
  have hns : ∀ L m, h.Ns L m → h'.Ns L m := fun L m n => by
    obtain ⟨o, e, d⟩ := Heap.Ns.obj n
    exact n.at' fun o' e' => by rw [e] at e'; cases e'; exact nd _ _ e d
  have hc : ∀ cc w, h.IsCell cc w → h'.IsCell cc w := fun cc w n => by
    obtain ⟨o, e, d⟩ := Heap.IsCell.obj n
    obtain ⟨o', e', d'⟩ := n
    rw [e] at e'; cases e'
    exact ⟨o, nd _ _ e d, d'⟩
  have hrd : ∀ y v, Rd env h y v → Rd env h' y v := fun y v q => by
    rcases q with ⟨k, m, n, e⟩ | ⟨k, cc, lk, n⟩
    · exact .inl ⟨k, m, hns _ _ n, e⟩
    · exact .inr ⟨k, cc, lk, hc _ _ n⟩
  refine { fk := I.fk, gl := I.gl, ns := let ⟨m, n⟩ := I.ns; ⟨m, hns _ _ n⟩, rd := fun y t g => ?_, cs := fun y q m => let ⟨w, z⟩ := I.cs y q m; ⟨w, hc _ _ z⟩, ap := I.ap, ox := I.ox, ob := I.ob, xs := fun b m => ?_, bs := fun b o e => ?_, li := fun l e => ?_ }
  · unfold Sg.get at g
    split at g
    · rename_i q; subst q; cases g
      exact ⟨_, hrd _ _ rd, a, us', rfl, ho, hl, l', pl', r.keep sq⟩
    · rename_i ne
      obtain ⟨v, q, lr⟩ := I.rd y t g
      refine ⟨v, hrd _ _ q, ?_⟩
      cases t with
      | val t => exact RVs.keep sq lr
      | own p u => exact absurd (one y p u g).symm ne
  · by_cases q : b = a
    · subst q
      obtain ⟨o, e, _, n, d⟩ := l'
      exact ⟨o, e, by unfold isData; rw [d]⟩
    · obtain ⟨o, e, d⟩ := I.xs b m
      exact ⟨o, (s.2 b q).trans e, d⟩
  · refine (s.2 b ?_).trans (I.bs b o e)
    rintro rfl
    rw [I.ob _ ho] at e; cases e
  · obtain ⟨q1, q2, q3⟩ := I.li l e
    have ne : l ≠ a := fun z => hl (z ▸ e)
    exact ⟨q1, LineOk.uni q2 q2 hx s ne, q3⟩

/-- own lists are new since the base -/
theorem own_line {base env ln O X σ h h' a} (I : Inv base env ln O X σ h) (ho : a ∈ O) (hl : ln ≠ some a) (s : Heap.SameBut a h h') : ∀ l Y, ln = some l → LineOk Y h l → LineOk Y h' l := fun l Y e y =>
  LineOk.uni (I.li l e).2.1 y (I.ox a ho) s fun z => hl (z ▸ e)

theorem EW_subOwn {x px slice pos pl ts} {P : AV → Prop} (hg : σ.get x = some (.own pl ts)) (h : EW c σ slice fun t => ∃ i, t = .int i ∧ 0 ≤ i ∧ i < 2 ^ 62 ∧ ∃ u, ts[i.toNat]? = some u ∧ P u)
    (hs : ∀ a b, subscripted slice false a b = operate [a, b] (getItem a b) := by intro _ _; with_unfolding_all rfl) (hl : ∀ o r, letTemporaryGo (.Name x px) o r = pure () := by intro _ _; with_unfolding_all rfl)
    (hd : (x == ("__debug__" : Str)) = false := by decide) (hc : (x == ("__classdict__" : Str)) = false := by decide) : EW c σ (.Subscript (.Name x px) slice pos) P := fun O X E s I => by
  obtain ⟨v, r, a, us, rfl, ho, hn, l, p, q⟩ := I.rd x _ hg
  have go : wpAny (model c.prog c.w) c.A (eval slice c.env) (fun i s₂ => wpAny (model c.prog c.w) c.A (subscriptTail (.Name x px) slice (.ref a) i) (Pst c X s P) E s₂) E s := by
    refine wpAny_mono (h O X E s I) (fun v1 s1 h1 => ?_) fun _ _ x => x
    obtain ⟨k, t, r1, i, rfl, h0, hi, u, hu, qu⟩ := h1
    obtain ⟨tk, rfl⟩ := r1.int_inv
    have l1 : s1.heap.IsList a us.toArray := l.at fun o => k.kp.keep _ o hn
    obtain ⟨w, hw, rw⟩ := (q.keep (I.sq k.kp)).getT hu
    exact subscriptTail_builtin l1.typeIs list_getitem_lookup (wpAny_getItem_list l1 h0 (by omega) (by simpa using hw) ⟨k, u, rw, qu⟩) (hs _ _) (hl _)
  refine Subscript_ ?_
  rcases r with ⟨a', m, n, e⟩ | ⟨a' | a', ca, l', n⟩
  · exact wpAny_Name (wpAny_loadName_local I.fk a' n e go) hd
  · exact wpAny_Name (wpAny_loadName_cell I.fk a' l' n go) hd
  · exact wpAny_Name (wpAny_loadName_free I.fk a' l' n go hc) hd

/-- a name's evaluation -/
theorem name_ {x px} {O X E s v} {R : Value → Shared → Prop} (I : Inv c.base c.env c.ln O X σ s.heap) (r : Rd c.env s.heap x v) (q : R v s) (hd : (x == ("__debug__" : Str)) = false) (hc : (x == ("__classdict__" : Str)) = false) :
    wpAny (model c.prog c.w) c.A (eval (.Name x px) c.env) R E s := by
  rcases r with ⟨a', m, n, e⟩ | ⟨a' | a', ca, l', n⟩
  · exact wpAny_Name (wpAny_loadName_local I.fk a' n e q) hd
  · exact wpAny_Name (wpAny_loadName_cell I.fk a' l' n q) hd
  · exact wpAny_Name (wpAny_loadName_free I.fk a' l' n q hc) hd

theorem EW_lenOwn {mg x px y py pos pl ts} {P : AV → Prop} (G : Glb c.base mg) (hx : x = ("len" : Str)) (hg : σ.get y = some (.own pl ts)) (hl : ts.length < 2 ^ 62) (q : P (.int ts.length))
    (hk : c.env.kindOf x = some .globalImplicit := by rfl) (hd : (y == ("__debug__" : Str)) = false := by decide) (hc : (y == ("__classdict__" : Str)) = false := by decide)
    (he : ∀ env, starEach [.Name y py] env = (false, eval (.Name y py) env) :: starEach [] env := by intro _; rfl)
    (hcc : ∀ env, eval (.Call (.Name x px) [.Name y py] [] pos) env = (do callWith pos (← eval (.Name x px) env) [] (backTo pos (starEach [.Name y py] env)) (backToKw pos (keywordEach [] env))) := by intro _; rfl) : EW c σ (.Call (.Name x px) [.Name y py] [] pos) P := fun O X E s I => by
  subst hx
  obtain ⟨mb, hb, hmb⟩ := G.b
  refine Call_ (Name_function_global I.fk hk (loadGlobal_builtin (v := .builtin "len") (by rw [I.gl.1]; exact G.g.keeps I.bs) (G.nob _ (.head _)) (by rw [I.gl.2]; exact hb.keeps I.bs) ((hmb _ (.head _)).trans (by decide +kernel)) ?_) (by decide)) (hcc _)
  obtain ⟨v, r, a, us, rfl, ho, hn, l, p, qq⟩ := I.rd y _ hg
  refine callWith_builtin1 (args_cons (name_ I r (args_nil ?_) hd hc) (he _)) (he _) rfl
  refine call_len_list l (by rw [List.size_toArray, qq.len]; omega) ?_
  rw [List.size_toArray, qq.len]
  exact ⟨.tok _, _, .int .nil, q⟩

theorem SW_retOwn {x px pos pl ts} (hg : σ.get x = some (.own pl ts)) (q : Q (.ret (.list ts))) (hd : (x == ("__debug__" : Str)) = false := by decide) (hc : (x == ("__classdict__" : Str)) = false := by decide) :
    SW c σ (.Return (some (.Name x px)) pos) Q := fun O X E s L I => by
  obtain ⟨v, r, a, us, rfl, ho, hn, l, p, qq⟩ := I.rd x _ hg
  refine wpAny_Return_some (name_ I r ⟨⟨s.heap, s.toks, rfl⟩, .refl I, .list ts, X.filter (· ≠ a), ?_, ?_, q⟩ hd hc)
  · exact .list (by simp) l (qq.weak fun b m => (List.mem_filter.mp m).1) .nil
  · intro b m
    by_cases e : b = a
    · exact .inr (e ▸ ho)
    · exact .inl (List.mem_filter.mpr ⟨m, by simpa using e⟩)

/-- an own list's post -/
theorem SPost.setOwn {O X s s' h' tk x a pl ts'} (I : Inv c.base c.env c.ln O X σ s.heap) (k : Kp c.ln s s') (ho : a ∈ O) (hl : c.ln ≠ some a) (hl' : ∃ o, h'.get? a = some o) (I' : Inv c.base c.env c.ln O X ((x, .own pl ts') :: σ) h') (sb : Heap.SameBut a s'.heap h') (q : Q (.next ((x, .own pl ts') :: σ))) :
    SPost c O X s Q .next { s' with heap := h', toks := tk } :=
  SPost.upK I k ⟨⟨h', tk, rfl⟩, .but (I.kp k.kp) (.inr (.inr ho)) sb hl' (own_line (I.kp k.kp) ho hl sb), O, X, _, I', .refl, q⟩

theorem SW_append {x px apos pos spos e ts} (hg : σ.get x = some (.own true ts)) (hn : ts.length ≤ 10000) (one : ∀ y p u, σ.get y = some (.own p u) → y = x)
    (h : EW c σ e fun t => Q (.next ((x, .own true (ts ++ [t])) :: σ))) (hd : (x == ("__debug__" : Str)) = false := by decide) (hc : (x == ("__classdict__" : Str)) = false := by decide)
    (hbase : ∀ env, attributeBase (.Name x px) "append" env (eval (.Name x px) env) = eval (.Name x px) env := by intro _; rfl)
    (hfew : ∀ env, ((backTo pos (starEach [e] env)).all (fun x => !x.1) && (backToKw pos (keywordEach [] env)).all (fun x => x.1.isSome)
      && decide (([e] : List Expr).length + ([] : List Keyword).length + (if ([] : List Keyword).isEmpty then 0 else 1) < 30)) = true := by intro _; rfl)
    (hline : (apos.endLine == pos.line) = true := by rfl)
    (htrees : ∀ env, backTo pos (starEach [e] env) = [(false, eval e env)] := by intro _; rfl)
    (hi' : interactive c.env = false := by rfl) (hs : ∀ env, swapsWith (.Call (.Attribute (.Name x px) "append" apos) [e] [] pos) none spos.line env = pure false := by intro _; rfl) :
    SW c σ (.Expr (.Call (.Attribute (.Name x px) "append" apos) [e] [] pos) spos) Q := fun O X E s L I => by
  obtain ⟨v, r, a, us, rfl, ho, hl, l, p, qq⟩ := I.rd x _ hg
  refine wpAny_Expr (wpAny_Call_append (hbase _) (hfew _) hline (htrees _) (name_ I r ?_ hd hc)) hi' (hs _)
  obtain ⟨n0, e0⟩ := p rfl
  refine ⟨a, us.toArray, rfl, ⟨_, n0, e0, rfl, rfl, rfl⟩, wpAny_mono (h O X E s I) (fun y s1 h1 => ?_) fun _ _ x => x⟩
  obtain ⟨k, t, r1, q⟩ := h1
  have I1 := I.kp k.kp
  have p1 : s1.heap.PlainList a us.toArray := ⟨n0, k.kp.keep _ _ hl e0⟩
  refine wpAny_list_append_plain p1 (fun h' p' sb => ?_) (by rw [List.size_toArray, qq.len, sizeLine_eq]; omega)
  have e1 : us.toArray.push y = (us ++ [y]).toArray := by simp
  rw [e1] at p'
  refine SPost.setOwn I k ho hl ⟨_, p'.choose_spec⟩ (I1.setOwn ho hl (r.kp I k.kp) sb p'.isList (fun _ => p') ((qq.keep (I.sq k.kp)).app r1) one ⟨_, p1.choose_spec, rfl⟩) sb q
end
end Mine
end B5_part
section B6_part
open PySem PySem.Calls PyProof.Rows
namespace Mine

noncomputable def LRels (ln : Option Addr) (O X : List Addr) (h : Heap) : List Value → List LV → Prop
  | [], [] => True
  | v :: vs, t :: ts => LRel ln O X h v t ∧ LRels ln O X h vs ts
  | _, _ => False
theorem LRels.of {ln O X h} : ∀ {vs : List Value} {ts : List AV}, RVs ln X h vs ts → LRels ln O X h vs (ts.map LV.val)
  | [], [], _ => trivial
  | v :: vs, t :: ts, r => ⟨r.head, LRels.of r.tail⟩
  | [], t :: ts, r => by cases r
  | v :: vs, [], r => by cases r
theorem LRels.len {ln O X h} : ∀ {vs : List Value} {ts : List LV}, LRels ln O X h vs ts → vs.length = ts.length
  | [], [], _ => rfl
  | v :: vs, t :: ts, r => by simp [LRels.len r.2]
  | [], t :: ts, r => r.elim
  | v :: vs, [], r => r.elim
theorem LRels.app {ln O X h} : ∀ {vs us : List Value} {ts ss : List LV}, LRels ln O X h vs ts → LRels ln O X h us ss → LRels ln O X h (vs ++ us) (ts ++ ss)
  | [], _, [], _, _, q => q
  | v :: vs, _, t :: ts, _, r, q => ⟨r.1, LRels.app r.2 q⟩
  | [], _, t :: ts, _, r, _ => r.elim
  | v :: vs, _, [], _, r, _ => r.elim
theorem LRels.rev {ln O X h} : ∀ {vs : List Value} {ts : List LV}, LRels ln O X h vs ts → LRels ln O X h vs.reverse ts.reverse
  | [], [], _ => trivial
  | v :: vs, t :: ts, r => by rw [List.reverse_cons, List.reverse_cons]; exact LRels.app (LRels.rev r.2) ⟨r.1, trivial⟩
  | [], t :: ts, r => r.elim
  | v :: vs, [], r => r.elim

theorem Mut.data {base env ln O X σ h b} (I : Inv base env ln O X σ h) {o : Obj} (e : h.get? b = some o) (d : isData o = true) (hb : b ∉ O) : ¬ Mut env O b := fun m => by
  rcases m with rfl | ⟨y, m⟩ | m
  · obtain ⟨m, n⟩ := I.ns
    obtain ⟨o', e', d'⟩ := Heap.Ns.obj n
    rw [e] at e'; cases e'; rw [d] at d'; cases d'
  · obtain ⟨w, n⟩ := I.cs y b m
    obtain ⟨o', e', d'⟩ := Heap.IsCell.obj n
    rw [e] at e'; cases e'; rw [d] at d'; cases d'
  · exact hb m
theorem KpS.sq {base env ln O X σ h h'} (I : Inv base env ln O X σ h) (k : KpS env ln O h h') : Sq X h h' := fun a o ha d e =>
  k.keep a o (Mut.data I e d fun m => ha (I.ox a m)) (fun q => ha (I.li a q).1) e

noncomputable def APost (c : Cx) (O X : List Addr) (s : Shared) (Q : Sg → Prop) : Unit → Shared → Prop := fun _ s' =>
  (∃ h' tk, s' = { s with heap := h', toks := tk }) ∧ KpS c.env c.ln O s.heap s'.heap ∧ ∃ σ', Inv c.base c.env c.ln O X σ' s'.heap ∧ Q σ'
noncomputable def AW (c : Cx) (σ : Sg) (act : Value → Sem Unit) (t : AV) (Q : Sg → Prop) : Prop :=
  ∀ (O X : List Addr) (E : Value → Shared → Prop) (s : Shared) (v : Value), Lo c.base c.env → Inv c.base c.env c.ln O X σ s.heap → RV c.ln X s.heap v t → wpAny (model c.prog c.w) c.A (act v) (APost c O X s Q) E s
noncomputable def AsW (c : Cx) : Sg → List (Value → Sem Unit) → List AV → (Sg → Prop) → Prop
  | σ, [], [], Q => Q σ
  | σ, a :: as, t :: ts, Q => AW c σ a t fun σ' => AsW c σ' as ts Q
  | _, _, _, _ => False

section
variable {c : Cx} {σ : Sg} {Q : Out → Prop}
theorem AsW_run : ∀ {acts : List (Value → Sem Unit)} {ts : List AV} {σ : Sg} {P : Sg → Prop} {O X E s vs}, AsW c σ acts ts P → Lo c.base c.env → Inv c.base c.env c.ln O X σ s.heap → RVs c.ln X s.heap vs ts → wpAny (model c.prog c.w) c.A (assignInOrder acts vs) (APost c O X s P) E s
  | [], [], σ, P, O, X, E, s, vs, h, L, I, r => by
    cases r
    exact wpAny_pure ⟨⟨s.heap, s.toks, rfl⟩, .refl I, σ, I, h⟩
  | a :: as, t :: ts, σ, P, O, X, E, s, vs, h, L, I, r => by
    cases vs with
    | nil => cases r
    | cons v vs =>
      refine wpAny_bind (wpAny_holding (wpAny_mono (h O X E s v L I r.head) (fun _ s1 h1 => ?_) fun _ _ x => x))
      obtain ⟨⟨h', tk, rfl⟩, k, σ', I', h1⟩ := h1
      refine wpAny_mono (AsW_run h1 L I' (r.tail.keep (k.sq I))) (fun _ s2 h2 => ?_) fun _ _ x => x
      obtain ⟨⟨h'', tk', rfl⟩, k', σ'', I'', h2⟩ := h2
      exact ⟨⟨h'', tk', rfl⟩, k.trans k' fun _ m => .inl m, σ'', I'', h2⟩
  | [], t :: ts, _, _, _, _, _, _, _, h, _, _, _ => h.elim
  | a :: as, [], _, _, _, _, _, _, _, h, _, _, _ => h.elim

theorem AW_name {x px t b} {P : Sg → Prop} (sl : Slot c.env x b) (q : P ((x, .val t) :: σ)) : AW c σ (assign (.Name x px) c.env) t P := fun O X E s v L I r => by
  refine PySem.wpAny_assign_Name (store1 L I (t := .val t) r sl fun h' tk I' sb => ⟨⟨h', tk, rfl⟩, ?_, _, I', q⟩)
  have p : SPost c O X s (fun _ => True) .next { s with heap := h', toks := tk } := SPost.put I .refl sl I' sb trivial
  exact p.2.1
theorem AW_subOwn {x px i pos t pl ts} {P : Sg → Prop} (hg : σ.get x = some (.own pl ts)) (one : ∀ y p u, σ.get y = some (.own p u) → y = x)
    (h : EW c σ i fun u => ∃ k, u = .int k ∧ 0 ≤ k ∧ k < ts.length ∧ ts.length ≤ 10000 ∧ P ((x, .own false (ts.set k.toNat t)) :: σ)) (hd : (x == ("__debug__" : Str)) = false := by decide) (hc : (x == ("__classdict__" : Str)) = false := by decide)
    (hr : ∀ vs : List Value, ∀ A E s (R : Unit → Shared → Prop), R () s → wpAny (model c.prog c.w) A (release vs []) R E s := by intro _ _ _ _ _ h; exact wpAny_release' h) :
    AW c σ (assign (.Subscript (.Name x px) i pos) c.env) t P := fun O X E s v L I r => by
  obtain ⟨w, rd, a, us, rfl, ho, hl, l, p, qq⟩ := I.rd x _ hg
  rw [arm_assign_Subscript]
  refine wpAny_bind (wpAny_holding (name_ I rd (wpAny_bind (wpAny_holding (wpAny_mono (h O X E s I) (fun u s1 h1 => ?_) fun _ _ x => x))) hd hc))
  obtain ⟨k, t1, r1, i, rfl, h0, hi, hz, q⟩ := h1
  obtain ⟨tk, rfl⟩ := r1.int_inv
  have I1 := I.kp k.kp
  have l1 : s1.heap.IsList a us.toArray := l.at fun o => k.kp.keep _ o hl
  have hlen := qq.len
  refine wpAny_bind (wpAny_standAt (wpAny_bind (wpAny_holding (wpAny_setItem_list l1 h0 (by omega) (by rw [List.size_toArray]; omega) fun h' l' sb => hr _ _ _ _ _ ?_))))
  have e : us.toArray.setIfInBounds i.toNat v = (us.set i.toNat v).toArray := by simp
  rw [e] at l'
  have hobj : ∃ o, s1.heap.get? a = some o ∧ isData o = true := by
    obtain ⟨o, eo, _, n, d⟩ := l1
    exact ⟨o, eo, by unfold isData; rw [d]⟩
  have I' := I1.setOwn ho hl (rd.kp I k.kp) sb l' (fun z => nomatch z) ((qq.keep (I.sq k.kp)).set (RVs.keep (I.sq k.kp) r) i.toNat) one hobj (pl := false)
  have pp : SPost c O X s (fun _ => True) .next { s1 with heap := h' } := SPost.setOwn I k ho hl (let ⟨o, e, _⟩ := l'; ⟨o, e⟩) I' sb trivial
  exact ⟨pp.1, pp.2.1, _, I', q⟩

/-- names stored in a row -/
noncomputable def NameAct (c : Cx) (x : Str) (act : Value → Sem Unit) : Prop := ∀ (E : Value → Shared → Prop) (s : Shared) (v : Value) (R : Unit → Shared → Prop), wpAny (model c.prog c.w) c.A (storeName c.env x v) R E s → wpAny (model c.prog c.w) c.A (act v) R E s
theorem nameAct_assign {x px} : NameAct c x (assign (.Name x px) c.env) := fun _ _ _ _ h => PySem.wpAny_assign_Name h
theorem nameAct_bind {x} : NameAct c x (bindName c.env x) := fun _ _ _ _ h => wpAny_bindName h
noncomputable def putAll : List (Str × LV) → Sg → Sg
  | [], σ => σ
  | p :: r, σ => putAll r (p :: σ)
theorem names_all : ∀ (xs : List Str) (acts : List (Value → Sem Unit)) (ts : List LV) (σ : Sg) {O X E s vs} {R : Unit → Shared → Prop}, xs.length = ts.length → acts.length = ts.length → (∀ i (h1 : i < xs.length) (h2 : i < acts.length), NameAct c xs[i] acts[i] ∧ ∃ b, Slot c.env xs[i] b) →
    Lo c.base c.env → Inv c.base c.env c.ln O X σ s.heap → LRels c.ln O X s.heap vs ts →
    (∀ h' tk, Inv c.base c.env c.ln O X (putAll (xs.zip ts) σ) h' → KpS c.env c.ln O s.heap h' → R () { s with heap := h', toks := tk }) → wpAny (model c.prog c.w) c.A (assignInOrder acts vs) R E s
  | [], [], [], σ, O, X, E, s, vs, R, _, _, _, L, I, r, q => by
    cases vs with
    | nil => exact wpAny_pure (q s.heap s.toks I (.refl I))
    | cons v vs => exact r.elim
  | x :: xs, a :: as, t :: ts, σ, O, X, E, s, vs, R, e1, e2, hn, L, I, r, q => by
    cases vs with
    | nil => exact r.elim
    | cons v vs =>
      obtain ⟨na, b, sl⟩ := hn 0 (by simp) (by simp)
      refine wpAny_bind (wpAny_holding (na _ _ _ _ (store1 L I r.1 sl fun h' tk I' sb => ?_)))
      have p : SPost c O X s (fun _ => True) .next { s with heap := h', toks := tk } := SPost.put I .refl sl I' sb trivial
      have hobj : ∃ o, s.heap.get? b = some o ∧ isData o = false := by
        rcases sl with ⟨_, rfl⟩ | ⟨_, l⟩
        · obtain ⟨m, n⟩ := I.ns; exact Heap.Ns.obj n
        · obtain ⟨m, n⟩ := I.cs x b (mem_of_lookup l); exact Heap.IsCell.obj n
      obtain ⟨o, e, d⟩ := hobj
      have D : Dt s.heap h' := .but sb e d
      have r' : LRels c.ln O X h' vs ts := by
        clear q hn e1 e2
        have r2 := r.2
        clear r
        induction vs generalizing ts with
        | nil => cases ts with
          | nil => trivial
          | cons _ _ => exact r2.elim
        | cons u us ih => cases ts with
          | nil => exact r2.elim
          | cons w ws => exact ⟨r2.1.dt D, ih _ r2.2⟩
      refine names_all xs as ts ((x, t) :: σ) (by simpa using e1) (by simpa using e2) (fun i h1 h2 => ?_) L I' r' fun h'' tk' I'' k'' => q h'' tk' I'' (p.2.1.trans k'' fun _ m => .inl m)
      have := hn (i + 1) (by simpa using h1) (by simpa using h2)
      simpa using this
  | [], _, _ :: _, _, _, _, _, _, _, _, e, _, _, _, _, _, _ => by simp at e
  | _ :: _, _, [], _, _, _, _, _, _, _, e, _, _, _, _, _, _ => by simp at e
  | _, [], _ :: _, _, _, _, _, _, _, _, _, e, _, _, _, _, _ => by simp at e
  | _, _ :: _, [], _, _, _, _, _, _, _, _, e, _, _, _, _, _ => by simp at e

theorem unpackT {T : Addr} {us : List Value} {n A E s} {R : List Value → Shared → Prop} (hh : A.handled = none) (ht : s.heap.IsTuple T us.toArray) (hn : n = us.length)
    (h : ∀ h', (∀ b o, s.heap.get? b = some o → h'.get? b = some o) → R us { s with heap := h' }) : wpAny (model c.prog c.w) A (unpackItems (.ref T) n none) R E s := by
  have e : n = us.toArray.size := by simp [hn]
  subst e
  refine wpAny_unpackItems_tuple hh ht fun h' x => ?_
  exact h h' fun b o e => x b o (Nat.ne_of_lt (Heap.lt_size e)) e

theorem SW_tup {elts k tpos value pos} (hh : c.A.handled = none) (h : EW c σ value fun t => ∃ ts, t = .tup ts ∧ (assignEach elts c.env).length = ts.length ∧ AsW c σ ((assignEach elts c.env).map (·.2)) ts fun σ' => Q (.next σ'))
    (hstar : (assignEach elts c.env).findIdx? (·.1) = none := by rfl) (hs : ∀ env, swapsWithSole [.Tuple elts k tpos] value pos.line env = pure false := by intro _; rfl)
    (hw : swappedStores [.Tuple elts k tpos] value c.env = pure none := by rfl) : SW c σ (.Assign [.Tuple elts k tpos] value pos) Q := fun O X E s L I => by
  refine Assign_Tuple (wpAny_mono (h O X E s I) (fun v s1 h1 => ?_) fun _ _ x => x) (hs _) hw
  obtain ⟨k1, t, r, ts, rfl, hn, h1⟩ := h1
  obtain ⟨T, us, n, rfl, hx, l, q⟩ := r.tup_inv
  have I1 := I.kp k1.kp
  refine PySem.wpAny_assign_Tuple hh ⟨_, l, rfl, n, rfl⟩ (by rw [hn, List.size_toArray, q.len]) hstar fun h' x => ?_
  have up : ∀ b o, s1.heap.get? b = some o → h'.get? b = some o := fun b o e => x b o (Nat.ne_of_lt (Heap.lt_size e)) e
  have k2 : Kp c.ln s1 { s1 with heap := h' } := .grow up
  have I2 := I1.kp k2.kp
  refine wpAny_mono (AsW_run h1 L I2 (by simpa using q.keep (I1.sq k2.kp))) (fun _ s2 h2 => ?_) fun _ _ x => x
  obtain ⟨hs2, kk, σ', I', qq⟩ := h2
  exact SPost.upK I (k1.trans k2) ⟨hs2, kk, O, X, σ', I', .refl, qq⟩

/-- names from a written tuple, the stores the other way round -/
theorem SW_tupSw {elts k tpos value pos} {names : List Str} (hh : c.A.handled = none) (hsl : ∀ x ∈ names, ∃ b, Slot c.env x b)
    (h : EW c σ value fun t => ∃ ts, t = .tup ts ∧ names.length = ts.length ∧ Q (.next (putAll (names.reverse.zip (ts.map LV.val).reverse) σ)))
    (hs : ∀ env, swapsWithSole [.Tuple elts k tpos] value pos.line env = pure false := by intro _; rfl)
    (hw : swappedStores [.Tuple elts k tpos] value c.env = pure (some names) := by rfl) : SW c σ (.Assign [.Tuple elts k tpos] value pos) Q := fun O X E s L I => by
  refine Assign_Tuple_swapped (names := names) (wpAny_mono (h O X E s I) (fun v s1 h1 => ?_) fun _ _ x => x) (hs _) hw
  obtain ⟨k1, t, r, ts, rfl, hn, h1⟩ := h1
  obtain ⟨T, us, n, rfl, hx, l, q⟩ := r.tup_inv
  have I1 := I.kp k1.kp
  refine unpackT hh ⟨_, l, rfl, n, rfl⟩ (by rw [hn, q.len]) fun h' up => ?_
  have k2 : Kp c.ln s1 { s1 with heap := h' } := .grow up
  have I2 := I1.kp k2.kp
  refine names_all names.reverse _ (ts.map LV.val).reverse σ (by simp [hn]) (by simp [hn]) (fun i h1 h2 => ?_) L I2 (LRels.rev (LRels.of (q.keep (I1.sq k2.kp)))) fun h'' tk I' kk => ?_
  · simp only [List.getElem_map]
    exact ⟨nameAct_bind, hsl _ (List.mem_reverse.mp (List.getElem_mem _))⟩
  · exact SPost.upK I (k1.trans k2) ⟨⟨h'', tk, rfl⟩, kk, O, X, _, I', .refl, h1⟩

/-- a fresh list first in a written tuple -/
theorem tup_own {e0 es k pos} {R : Value → Shared → Prop} {O X E s} (I : Inv c.base c.env c.ln O X σ s.heap) {P : List AV → List AV → Prop} (h : EWF c σ e0 fun t0 => EsW c σ es fun ts => (ts.length ≤ 900 ∧ P t0 ts))
    (he : ∀ env, starEach (e0 :: es) env = (false, eval e0 env) :: starEach es env)
    (go : ∀ T a v0 us t0 ts s', Kp c.ln s s' → s.heap.get? a = none → Inv c.base c.env c.ln (a :: O) (a :: X) σ s'.heap → s'.heap.IsTuple T (List.toArray (v0 :: us)) → LRels c.ln (a :: O) (a :: X) s'.heap (v0 :: us) (.own true t0 :: ts.map LV.val) → P t0 ts → R (.ref T) s') :
    wpAny (model c.prog c.w) c.A (eval (.Tuple (e0 :: es) k pos) c.env) R E s := by
  refine wpAny_Tuple_spliced (args_cons (wpAny_mono (h O X E s I) (fun v s1 h1 => ?_) fun _ _ x => x) (he _))
  obtain ⟨k1, a, us0, t0, rfl, hf, hx, pl, r0, h1⟩ := h1
  have hln : c.ln ≠ some a := fun q => by
    obtain ⟨o, e, _⟩ := (I.li a q).2.1.obj
    rw [hf] at e; cases e
  have I1 : Inv c.base c.env c.ln (a :: O) (a :: X) σ s1.heap := I.own k1.kp hf ⟨_, pl.choose_spec, rfl⟩
  refine wpAny_mono (h1 (a :: O) (a :: X) E s1 pos I1) (fun vs s2 h2 => ?_) fun _ _ x => x
  obtain ⟨k2, ts, r2, hl, p⟩ := h2
  have I2 := I1.kp k2.kp
  have k3 : Kp c.ln s2 { s2 with heap := s2.heap.push { cls := .type "tuple", data := .seq (Value.ref a :: vs).toArray } } := .push _
  have I3 := I2.kp k3.kp
  refine ⟨by simp only [List.length_cons]; rw [r2.len, sizeLine_eq]; omega, go _ a (.ref a) vs t0 ts _ ((k1.trans k2).trans k3) hf I3 ⟨_, Heap.get?_push_size _ rfl, rfl, 0, rfl⟩ ⟨?_, LRels.of (r2.keep (I2.sq k3.kp))⟩ p⟩
  have p3 : (s2.heap.push { cls := .type "tuple", data := .seq (Value.ref a :: vs).toArray }).PlainList a us0.toArray := by
    obtain ⟨n, e⟩ := pl
    exact ⟨n, Heap.get?_push_of_some _ (k2.kp.keep _ _ hln e)⟩
  exact ⟨a, us0, rfl, .head _, hln, p3.isList, fun _ => p3, (r0.keep (I1.sq k2.kp)).keep (I2.sq k3.kp)⟩

theorem Gr.own {O X a h} (hf : h.get? a = none) : Gr O X (a :: O) (a :: X) h :=
  ⟨fun b m => (List.mem_cons.mp m).elim (fun e => .inr (e ▸ hf)) .inl, fun _ m => .tail _ m, fun b m => (List.mem_cons.mp m).elim (fun e => .inr (e ▸ hf)) .inl⟩
theorem SW_asgOwn {x px e pos b} (sl : Slot c.env x b) (h : EWF c σ e fun ts => Q (.next ((x, .own true ts) :: σ))) (hs : ∀ env, swapsWith e (some (.Name x px)) pos.line env = pure false := by intro _; rfl) : SW c σ (.Assign [.Name x px] e pos) Q := fun O X E s L I => by
  refine wpAny_Assign_Name (wpAny_mono (h O X E s I) (fun v s1 h1 => ?_) fun _ _ x => x) (hs _)
  obtain ⟨k, a, us, ts, rfl, hf, hx, pl, r, q⟩ := h1
  have hln : c.ln ≠ some a := fun q => by
    obtain ⟨o, e, _⟩ := (I.li a q).2.1.obj
    rw [hf] at e; cases e
  have I1 : Inv c.base c.env c.ln (a :: O) (a :: X) σ s1.heap := I.own k.kp hf ⟨_, pl.choose_spec, rfl⟩
  refine store1 L I1 (t := .own true ts) ⟨a, us, rfl, .head _, hln, pl.isList, fun _ => pl, r⟩ sl fun h' tk I' sb => ?_
  have p : SPost c (a :: O) (a :: X) s1 (fun _ => True) .next { s1 with heap := h', toks := tk } := SPost.put I1 .refl sl I' sb trivial
  refine ⟨let ⟨h1, t1, e⟩ := k.same; ⟨h', tk, by rw [e]⟩, (KpS.of I k.kp).trans (O' := a :: O) p.2.1 (Gr.own (X := X) hf).ho, a :: O, a :: X, _, I', .own hf, q⟩
theorem SW_tupOwn {elts k tk tpos e0 es vpos pos} {names : List Str} (hh : c.A.handled = none) (hsl : ∀ x ∈ names, ∃ b, Slot c.env x b)
    (h : EWF c σ e0 fun t0 => EsW c σ es fun ts => ts.length ≤ 900 ∧ names.length = ts.length + 1 ∧ Q (.next (putAll (names.zip (.own true t0 :: ts.map LV.val)) σ)))
    (hacts : (assignEach elts c.env).length = names.length ∧ ∀ i (h1 : i < names.length) (h2 : i < ((assignEach elts c.env).map (·.2)).length), NameAct c names[i] ((assignEach elts c.env).map (·.2))[i])
    (hstar : (assignEach elts c.env).findIdx? (·.1) = none := by rfl)
    (he : ∀ env, starEach (e0 :: es) env = (false, eval e0 env) :: starEach es env := by intro _; rfl)
    (hs : ∀ env, swapsWithSole [.Tuple elts k tpos] (.Tuple (e0 :: es) tk vpos) pos.line env = pure false := by intro _; rfl)
    (hw : swappedStores [.Tuple elts k tpos] (.Tuple (e0 :: es) tk vpos) c.env = pure none := by rfl) : SW c σ (.Assign [.Tuple elts k tpos] (.Tuple (e0 :: es) tk vpos) pos) Q := fun O X E s L I => by
  refine Assign_Tuple (tup_own I h he fun T a v0 us t0 ts s1 k1 hf I1 ht lr p => ?_) (hs _) hw
  obtain ⟨hn, q⟩ := p
  have hlen := lr.len
  simp only [List.length_cons, List.length_map] at hlen
  refine PySem.wpAny_assign_Tuple hh ht (by rw [hacts.1, hn, List.size_toArray, List.length_cons, ← hlen]) hstar fun h' x => ?_
  have up : ∀ b o, s1.heap.get? b = some o → h'.get? b = some o := fun b o e => x b o (Nat.ne_of_lt (Heap.lt_size e)) e
  have k2 : Kp c.ln s1 { s1 with heap := h' } := .grow up
  have I2 := I1.kp k2.kp
  refine names_all names _ (.own true t0 :: ts.map LV.val) σ (by simp [hn]) (by simp [hacts.1, hn]) (fun i h1 h2 => ⟨hacts.2 i h1 h2, hsl _ (List.getElem_mem _)⟩) L I2 ?_ fun h'' tk I' kk => ?_
  · have D : Dt s1.heap h' := fun b o _ e => up b o e
    have gen : ∀ (vs : List Value) (ts : List LV), LRels c.ln (a :: O) (a :: X) s1.heap vs ts → LRels c.ln (a :: O) (a :: X) h' vs ts := by
      intro vs
      induction vs with
      | nil => intro ts r; cases ts with
        | nil => trivial
        | cons _ _ => exact r.elim
      | cons u us ih => intro ts r; cases ts with
        | nil => exact r.elim
        | cons w ws => exact ⟨r.1.dt D, ih _ r.2⟩
    simpa using gen _ _ lr
  · have kA := k1.trans k2
    exact ⟨let ⟨h1, t1, e⟩ := kA.same; ⟨h'', tk, by rw [e]⟩, (KpS.of I kA.kp).trans (O' := a :: O) kk (Gr.own (X := X) hf).ho, a :: O, a :: X, _, I', .own hf, q⟩

theorem LRels.dt {ln O X h h'} (D : Dt h h') : ∀ (vs : List Value) (ts : List LV), LRels ln O X h vs ts → LRels ln O X h' vs ts := by
  intro vs
  induction vs with
  | nil => intro ts r; cases ts with
    | nil => trivial
    | cons _ _ => exact r.elim
  | cons u us ih => intro ts r; cases ts with
    | nil => exact r.elim
    | cons w ws => exact ⟨r.1.dt D, ih _ r.2⟩
theorem SW_tupOwnSw {elts k tk tpos e0 es vpos pos} {names : List Str} (hh : c.A.handled = none) (hsl : ∀ x ∈ names, ∃ b, Slot c.env x b)
    (h : EWF c σ e0 fun t0 => EsW c σ es fun ts => ts.length ≤ 900 ∧ names.length = ts.length + 1 ∧ Q (.next (putAll (names.reverse.zip (.own true t0 :: ts.map LV.val).reverse) σ)))
    (he : ∀ env, starEach (e0 :: es) env = (false, eval e0 env) :: starEach es env := by intro _; rfl)
    (hs : ∀ env, swapsWithSole [.Tuple elts k tpos] (.Tuple (e0 :: es) tk vpos) pos.line env = pure false := by intro _; rfl)
    (hw : swappedStores [.Tuple elts k tpos] (.Tuple (e0 :: es) tk vpos) c.env = pure (some names) := by rfl) : SW c σ (.Assign [.Tuple elts k tpos] (.Tuple (e0 :: es) tk vpos) pos) Q := fun O X E s L I => by
  refine Assign_Tuple_swapped (names := names) (tup_own I h he fun T a v0 us t0 ts s1 k1 hf I1 ht lr p => ?_) (hs _) hw
  obtain ⟨hn, q⟩ := p
  have hlen := lr.len
  simp only [List.length_cons, List.length_map] at hlen
  refine unpackT hh ht (by rw [hn, List.length_cons]; exact hlen.symm) fun h' up => ?_
  have k2 : Kp c.ln s1 { s1 with heap := h' } := .grow up
  have I2 := I1.kp k2.kp
  have D : Dt s1.heap h' := fun b o _ e => up b o e
  refine names_all names.reverse _ (.own true t0 :: ts.map LV.val).reverse σ (by simp [hn]) (by simp [hn]) (fun i h1 h2 => ?_) L I2 (LRels.rev (lr.dt D)) fun h'' tk I' kk => ?_
  · simp only [List.getElem_map]
    exact ⟨nameAct_bind, hsl _ (List.mem_reverse.mp (List.getElem_mem _))⟩
  · have kA := k1.trans k2
    exact ⟨let ⟨h1, t1, e⟩ := kA.same; ⟨h'', tk, by rw [e]⟩, (KpS.of I kA.kp).trans (O' := a :: O) kk (Gr.own (X := X) hf).ho, a :: O, a :: X, _, I', .own hf, q⟩

/-- while, by an invariant and a measure -/
theorem SW_while {test body pos} (J : Nat → Sg → Prop) {n : Nat} {σ0 : Sg} (l0 : Sg.le σ0 σ) (h0 : J n σ0)
    (step : ∀ n σ', J n σ' → TW c σ' test fun b => if b then SWs c σ' body fun o => match o with | .next σ3 => ∃ m σ4, m < n ∧ Sg.le σ4 σ3 ∧ J m σ4 | .ret t => Q (.ret t) else Q (.next σ')) : SW c σ (.While test body [] pos) Q := fun O X E s L I => by
  refine wpAny_While ?_
  refine codeAny_whileLoop (fun n s' => ∃ O' X' σ', (∃ h' tk, s' = { s with heap := h', toks := tk }) ∧ KpS c.env c.ln O s.heap s'.heap ∧ Inv c.base c.env c.ln O' X' σ' s'.heap ∧ Gr O X O' X' s.heap ∧ J n σ') ?_ n
    ⟨O, X, σ0, ⟨s.heap, s.toks, rfl⟩, .refl I, I.le l0, .refl, h0⟩
  rintro n s' ⟨O', X', σ', hs, k, I', g, hJ⟩
  refine wpAny_mono (step n σ' hJ O' X' _ s' I') (fun b s1 h1 => ?_) fun _ _ x => x
  obtain ⟨k1, h1⟩ := h1
  have I1 := I'.kp k1.kp
  cases b with
  | false =>
    simp only [Bool.false_eq_true, if_false] at h1 ⊢
    have p : SPost c O' X' s' Q .next s1 := SPost.upK I' k1 ⟨⟨s1.heap, s1.toks, rfl⟩, .refl I1, O', X', σ', I1, .refl, h1⟩
    exact wpAny_execs_nil (SPost.up hs k g I.xs p)
  | true =>
    simp only [if_true] at h1 ⊢
    refine wpAny_mono (h1 O' X' _ s1 L I1) (fun f s2 h2 => ?_) fun _ _ x => x
    have h2 := SPost.up hs k g I.xs (SPost.upK I' k1 h2)
    obtain ⟨hs2, k2, h2⟩ := h2
    cases f with
    | next =>
      obtain ⟨O2, X2, σ3, I2, g2, m, σ4, hm, le4, hJ'⟩ := h2
      exact ⟨m, hm, O2, X2, σ4, hs2, k2, I2.le le4, g2, hJ'⟩
    | ret v => exact ⟨hs2, k2, h2⟩
    | brk => exact h2.elim
    | cont => exact h2.elim
end
end Mine
end B6_part
section B7_part
open PySem PySem.Calls PyProof.Rows PySem.W
namespace Mine

/-- a tuple that begins with an int -/
noncomputable def TupI (t : AV) (ss : List AV) : Prop := t = .tup ss ∧ ∃ i r, ss = .int i :: r
/-- an item of a walk: a tree, or a tuple just made -/
noncomputable def Itm (ln : Option Addr) (X : List Addr) (h : Heap) (v : Value) (t : AV) : Prop :=
  RV ln X h v t ∨ ∃ T us ss, v = .ref T ∧ TupI t ss ∧ h.IsTuple T (List.toArray us) ∧ RVs ln X h us ss

structure ItOk (c : Cx) (O X : List Addr) (σ : Sg) (target : Expr) (s s₂ : Shared) (I : Addr) (fp wr : List Addr) (P Md : Nat → Value → Heap → Prop) (St : Nat → Heap → Prop) (ts : List AV) : Prop where
  W : KTurns c.prog c.w c.A target I fp wr ts.length P Md St
  self : ∀ (s : Shared) (Q : Value → Shared → Prop) (E : Value → Shared → Prop), St 0 s.heap → Q (.ref I) s → wpAny (model c.prog c.w) c.A (pyIter (.ref I)) Q E s
  st : St 0 s₂.heap
  kp : Kp c.ln s s₂
  inv : Inv c.base c.env c.ln O (wr ++ X) σ s₂.heap
  fp : ∀ b ∈ fp, b ∉ O ∧ c.ln ≠ some b ∧ ∃ o, s₂.heap.get? b = some o ∧ isData o = true
  new : ∀ b ∈ wr, s.heap.get? b = none
  ex : ∀ i h, St i h → ∀ b ∈ wr, ∃ o, h.get? b = some o ∧ isData o = true
  itm : ∀ i v h', i < ts.length → P i v h' → ∃ t, ts[i]? = some t ∧ (RV c.ln (wr ++ X) s₂.heap v t ∨ ∃ T us ss, v = .ref T ∧ TupI t ss ∧ h'.IsTuple T (List.toArray us) ∧ RVs c.ln (wr ++ X) s₂.heap us ss)
noncomputable def ItW (c : Cx) (σ : Sg) (target iter : Expr) (K : List AV → Prop) : Prop :=
  ∀ (O X : List Addr) (E : Value → Shared → Prop) (s : Shared), Inv c.base c.env c.ln O X σ s.heap →
    wpAny (model c.prog c.w) c.A (eval iter c.env) (fun xv s₁ => wpAny (model c.prog c.w) c.A (pyIter xv) (fun it s₂ => ∃ I fp wr P Md St ts, it = .ref I ∧ ItOk c O X σ target s s₂ I fp wr P Md St ts ∧ K ts) E s₁) E s
noncomputable def TgW (c : Cx) (σ : Sg) (target : Expr) (t : AV) (Q : Sg → Prop) : Prop :=
  ∀ (O X : List Addr) (E : Value → Shared → Prop) (s : Shared) (v : Value), Lo c.base c.env → Inv c.base c.env c.ln O X σ s.heap → Itm c.ln X s.heap v t → wpAny (model c.prog c.w) c.A (assign target c.env v) (APost c O X s Q) E s

section
variable {c : Cx} {σ : Sg} {Q : Out → Prop}

/-- after a step of a walk all but its own objects stand -/
theorem Inv.step {base env ln O X h h'} {wr : List Addr} (I : Inv base env ln O X σ h) (hk : ∀ b o, b ∉ wr → h.get? b = some o → h'.get? b = some o) (hw : ∀ b ∈ wr, b ∈ X ∧ b ∉ O ∧ ln ≠ some b ∧ base.get? b = none)
    (hd : ∀ b ∈ wr, ∃ o, h.get? b = some o ∧ isData o = true) (ex : ∀ b ∈ wr, ∃ o, h'.get? b = some o ∧ isData o = true) : Inv base env ln O X σ h' := by
  have sq : Sq X h h' := fun a o ha _ e => hk a o (fun m => ha (hw a m).1) e
  have nd : ∀ b o, h.get? b = some o → isData o = false → h'.get? b = some o := fun b o e d => hk b o (fun m => by
    obtain ⟨o', e', d'⟩ := hd b m
    rw [e] at e'; cases e'; rw [d] at d'; cases d') e
  have hns : ∀ L m, h.Ns L m → h'.Ns L m := fun L m n => by
    obtain ⟨o, e, d⟩ := Heap.Ns.obj n
    exact n.at' fun o' e' => by rw [e] at e'; cases e'; exact nd _ _ e d
  have hc : ∀ cc w, h.IsCell cc w → h'.IsCell cc w := fun cc w n => by
    obtain ⟨o, e, d⟩ := Heap.IsCell.obj n
    obtain ⟨o', e', d'⟩ := n
    rw [e] at e'; cases e'
    exact ⟨o, nd _ _ e d, d'⟩
  refine { fk := I.fk, gl := I.gl, ns := let ⟨m, n⟩ := I.ns; ⟨m, hns _ _ n⟩, rd := fun y t g => ?_, cs := fun y q m => let ⟨w, z⟩ := I.cs y q m; ⟨w, hc _ _ z⟩, ap := I.ap, ox := I.ox, ob := I.ob, xs := fun b m => ?_, bs := fun b o e => hk b o (fun m => by rw [(hw b m).2.2.2] at e; cases e) (I.bs b o e), li := fun l e => ?_ }
  · obtain ⟨v, q, lr⟩ := I.rd y t g
    refine ⟨v, ?_, ?_⟩
    · rcases q with ⟨k, m, n, e⟩ | ⟨k, cc, lk, n⟩
      · exact .inl ⟨k, m, hns _ _ n, e⟩
      · exact .inr ⟨k, cc, lk, hc _ _ n⟩
    · cases t with
      | val t => exact RVs.keep sq lr
      | own pl ts =>
        obtain ⟨a, us, e, ho, hl, l, p, r⟩ := lr
        have na : a ∉ wr := fun m => (hw a m).2.1 ho
        exact ⟨a, us, e, ho, hl, l.at fun o => hk _ o na, fun z => (p z).at fun o => hk _ o na, r.keep sq⟩
  · by_cases q : b ∈ wr
    · exact ex b q
    · obtain ⟨o, e, d⟩ := I.xs b m
      exact ⟨o, hk b o q e, d⟩
  · obtain ⟨q1, ⟨xa, kk, t, vs, is, l1, nx, l2, r⟩, q3⟩ := I.li l e
    exact ⟨q1, ⟨xa, kk, t, vs, is, l1.at fun o => hk _ o fun m => (hw l m).2.2.1 e, nx, l2.at fun o => hk _ o fun m => nx (hw xa m).1, r⟩, q3⟩
theorem Inv.drop {base env ln O X X' h} (I : Inv base env ln O X' σ h) (hx : ∀ b ∈ X, b ∈ X') (ho : ∀ b ∈ O, b ∈ X) (hl : ∀ l, ln = some l → l ∈ X) : Inv base env ln O X σ h :=
  { I with
    rd := fun y t g => by
      obtain ⟨v, q, lr⟩ := I.rd y t g
      refine ⟨v, q, ?_⟩
      cases t with
      | val t => exact RVs.weak lr hx
      | own pl ts =>
        obtain ⟨a, us, e, ho, hl, l, p, r⟩ := lr
        exact ⟨a, us, e, ho, hl, l, p, r.weak hx⟩
    ox := ho
    xs := fun b m => I.xs b (hx b m)
    li := fun l e => let ⟨a, b, d⟩ := I.li l e; ⟨hl l e, b.weak hx, d⟩ }
theorem Inv.dropW {base env ln O X h h'} {wr : List Addr} (I : Inv base env ln O X σ h) (hk : ∀ b o, b ∉ wr → h.get? b = some o → h'.get? b = some o) (hw : ∀ b ∈ wr, b ∈ X ∧ b ∉ O ∧ ln ≠ some b ∧ base.get? b = none)
    (hd : ∀ b ∈ wr, ∃ o, h.get? b = some o ∧ isData o = true) : Inv base env ln O (X.filter fun a => decide (a ∉ wr)) σ h' := by
  have sq : Sq X h h' := fun a o ha _ e => hk a o (fun m => ha (hw a m).1) e
  have sub : ∀ b ∈ X.filter fun a => decide (a ∉ wr), b ∈ X := fun b m => (List.mem_filter.mp m).1
  have nd : ∀ b o, h.get? b = some o → isData o = false → h'.get? b = some o := fun b o e d => hk b o (fun m => by
    obtain ⟨o', e', d'⟩ := hd b m
    rw [e] at e'; cases e'; rw [d] at d'; cases d') e
  have hns : ∀ L m, h.Ns L m → h'.Ns L m := fun L m n => by
    obtain ⟨o, e, d⟩ := Heap.Ns.obj n
    exact n.at' fun o' e' => by rw [e] at e'; cases e'; exact nd _ _ e d
  have hc : ∀ cc w, h.IsCell cc w → h'.IsCell cc w := fun cc w n => by
    obtain ⟨o, e, d⟩ := Heap.IsCell.obj n
    obtain ⟨o', e', d'⟩ := n
    rw [e] at e'; cases e'
    exact ⟨o, nd _ _ e d, d'⟩
  refine { fk := I.fk, gl := I.gl, ns := let ⟨m, n⟩ := I.ns; ⟨m, hns _ _ n⟩, rd := fun y t g => ?_, cs := fun y q m => let ⟨w, z⟩ := I.cs y q m; ⟨w, hc _ _ z⟩, ap := I.ap, ox := fun b m => List.mem_filter.mpr ⟨I.ox b m, by simpa using fun z => (hw b z).2.1 m⟩, ob := I.ob, xs := fun b m => ?_, bs := fun b o e => hk b o (fun m => by rw [(hw b m).2.2.2] at e; cases e) (I.bs b o e), li := fun l e => ?_ }
  · obtain ⟨v, q, lr⟩ := I.rd y t g
    refine ⟨v, ?_, ?_⟩
    · rcases q with ⟨k, m, n, e⟩ | ⟨k, cc, lk, n⟩
      · exact .inl ⟨k, m, hns _ _ n, e⟩
      · exact .inr ⟨k, cc, lk, hc _ _ n⟩
    · cases t with
      | val t => exact RVs.weak (RVs.keep sq lr) sub
      | own pl ts =>
        obtain ⟨a, us, e, ho, hl, l, p, r⟩ := lr
        have na : a ∉ wr := fun m => (hw a m).2.1 ho
        exact ⟨a, us, e, ho, hl, l.at fun o => hk _ o na, fun z => (p z).at fun o => hk _ o na, (r.keep sq).weak sub⟩
  · have m' := List.mem_filter.mp m
    obtain ⟨o, e, d⟩ := I.xs b m'.1
    exact ⟨o, hk b o (by simpa using m'.2) e, d⟩
  · obtain ⟨q1, ⟨xa, kk, t, vs, is, l1, nx, l2, r⟩, q3⟩ := I.li l e
    exact ⟨List.mem_filter.mpr ⟨q1, by simpa using fun z => (hw l z).2.2.1 e⟩, ⟨xa, kk, t, vs, is, l1.at fun o => hk _ o fun m => (hw l m).2.2.1 e, fun m => nx (sub _ m), l2.at fun o => hk _ o fun m => nx (hw xa m).1, r⟩, q3⟩

theorem TgW_name {x px t b} {P : Sg → Prop} (sl : Slot c.env x b) (q : P ((x, .val t) :: σ)) (ht : ∀ i ss, t ≠ .tup (.int i :: ss)) : TgW c σ (.Name x px) t P := fun O X E s v L I r => by
  rcases r with r | ⟨T, us, ss, _, ⟨e, i, rr, e2⟩, _⟩
  · exact AW_name sl q O X E s v L I r
  · subst e2; exact absurd e (ht i rr)
theorem TgW_tup {elts k pos ss} {P : Sg → Prop} (hh : c.A.handled = none) (hn : (assignEach elts c.env).length = ss.length) (h : AsW c σ ((assignEach elts c.env).map (·.2)) ss P)
    (hstar : (assignEach elts c.env).findIdx? (·.1) = none := by rfl) : TgW c σ (.Tuple elts k pos) (.tup ss) P := fun O X E s v L I r => by
  have go : ∀ T us, s.heap.IsTuple T (List.toArray us) → RVs c.ln X s.heap us ss → wpAny (model c.prog c.w) c.A (assign (.Tuple elts k pos) c.env (.ref T)) (APost c O X s P) E s := fun T us ht q => by
    refine PySem.wpAny_assign_Tuple hh ht (by rw [hn, List.size_toArray, q.len]) hstar fun h' x => ?_
    have up : ∀ b o, s.heap.get? b = some o → h'.get? b = some o := fun b o e => x b o (Nat.ne_of_lt (Heap.lt_size e)) e
    have k2 : Kp c.ln s { s with heap := h' } := .grow up
    have I2 := I.kp k2.kp
    refine wpAny_mono (AsW_run h L I2 (by simpa using q.keep (I.sq k2.kp))) (fun _ s2 h2 => ?_) fun _ _ x => x
    obtain ⟨⟨h3, t3, rfl⟩, kk, σ', I', qq⟩ := h2
    exact ⟨⟨h3, t3, rfl⟩, (KpS.of I k2.kp).trans kk fun _ m => .inl m, σ', I', qq⟩
  rcases r with r | ⟨T, us, ss', rfl, ⟨e, _⟩, ht, q⟩
  · obtain ⟨T, us, n, rfl, hx, l, q⟩ := r.tup_inv
    exact go T us ⟨_, l, rfl, n, rfl⟩ q
  · cases e
    exact go T us ht q

theorem ItOk.wr {O X target s s₂ I fp wr P Md St ts} (K : ItOk c O X σ target s s₂ I fp wr P Md St ts) (I0 : Inv c.base c.env c.ln O X σ s.heap) : ∀ b ∈ wr, b ∈ wr ++ X ∧ b ∉ O ∧ c.ln ≠ some b ∧ c.base.get? b = none := fun b m => by
  obtain ⟨a1, a2, a3⟩ := K.fp b (K.W.sub b m)
  refine ⟨List.mem_append_left _ m, a1, a2, ?_⟩
  cases e : c.base.get? b with
  | none => rfl
  | some o => have := I0.bs b o e; rw [K.new b m] at this; cases this

/-- for, by an invariant over the turns -/
theorem SW_for {target iter body pos} (h : ItW c σ target iter fun ts => ∃ (J : Nat → Sg → Prop) (σ0 : Sg), Sg.le σ0 σ ∧ J 0 σ0 ∧
      (∀ i t σ', ts[i]? = some t → J i σ' → TgW c σ' target t fun σ'' => SWs c σ'' body fun o => match o with | .next σ3 => ∃ σ4, Sg.le σ4 σ3 ∧ J (i + 1) σ4 | .ret t => Q (.ret t)) ∧ ∀ σ', J ts.length σ' → Q (.next σ'))
    (hs : ∀ env x, foldedSetIterable iter env x = pure x := by intro _ _; rfl) : SW c σ (.For target iter body [] pos) Q := fun O X E s L I => by
  refine wpAny_For (wpAny_mono (h O X E s I) (fun xv s1 h1 => wpAny_mono h1 (fun it s2 h2 => ?_) fun _ _ x => x) fun _ _ x => x) (hs _)
  obtain ⟨Ia, fp, wr, P, Md, St, ts, rfl, K, J, σ0, le0, h0, turn, fin⟩ := h2
  have hw := K.wr I
  have hd2 : ∀ b ∈ fp, ¬ Mut c.env O b := fun b m => by
    obtain ⟨a1, a2, o, e, d⟩ := K.fp b m
    exact Mut.data K.inv e d a1
  refine codeAny_forLoop_any (fun k s' => ∃ i O' X' σ', k = ts.length + 1 - i ∧ i ≤ ts.length ∧ (∃ h' tk, s' = { s2 with heap := h', toks := tk }) ∧ KpS c.env c.ln (wr ++ O) s2.heap s'.heap ∧ St i s'.heap ∧ Inv c.base c.env c.ln O' X' σ' s'.heap ∧ Sq (wr ++ X) s2.heap s'.heap ∧ Gr O (wr ++ X) O' X' s2.heap ∧ J i σ') ?_ (ts.length + 1)
    ⟨0, O, wr ++ X, σ0, rfl, Nat.zero_le _, ⟨s2.heap, s2.toks, rfl⟩, ⟨fun _ _ _ _ e => e, fun _ o e => ⟨o, e⟩, fun _ _ _ x => x⟩, K.st, K.inv.le le0, fun _ _ _ _ e => e, .refl, h0⟩
  rintro k s' ⟨i, O', X', σ', rfl, hi, hs', kk, hst, I', sq, g, hJ⟩
  have hwr' : ∀ b ∈ wr, b ∈ X' ∧ b ∉ O' ∧ c.ln ≠ some b ∧ c.base.get? b = none := fun b m => by
    obtain ⟨a1, a2, a3, a4⟩ := hw b m
    refine ⟨g.hx b a1, fun z => ?_, a3, a4⟩
    rcases g.ho b z with z | z
    · exact a2 z
    · obtain ⟨_, _, o, e, _⟩ := K.fp b (K.W.sub b m)
      rw [z] at e; cases e
  have hfpO : ∀ b ∈ fp, ¬ Mut c.env O' b := fun b m q => by
    rcases q with q | q | q
    · exact hd2 b m (.inl q)
    · exact hd2 b m (.inr (.inl q))
    · rcases g.ho b q with z | z
      · exact hd2 b m (.inr (.inr z))
      · obtain ⟨_, _, o, e, _⟩ := K.fp b m
        rw [z] at e; cases e
  -- what a step of the walk keeps
  have stepK : ∀ (σ1 : Sg) (h1 h2 : Heap), Inv c.base c.env c.ln O' X' σ1 h1 → (∀ b o, b ∉ wr → h1.get? b = some o → h2.get? b = some o) → (∀ b ∈ wr, ∃ o, h2.get? b = some o) → KpS c.env c.ln (wr ++ O) h1 h2 := fun σ1 h1 h2 I1 hk ex => by
    refine ⟨fun b o n _ e => hk b o (fun m => n (.inr (.inr (List.mem_append_left _ m)))) e, fun b o e => ?_, fun l Y e x => ?_⟩
    · by_cases m : b ∈ wr
      · exact ex b m
      · exact ⟨o, hk b o m e⟩
    · obtain ⟨xa, kq, t, vs, is, a1, nx, a2, r⟩ := x
      obtain ⟨xa', kq', t', vs', is', b1, ny, b2, r'⟩ := (I1.li l e).2.1
      have e1 := IsList.uni a1 b1
      have e2 : xa = xa' := by injection e1 with e; injection e with e; injection e
      subst e2
      exact ⟨xa, kq, t, vs, is, a1.at fun o => hk _ o fun m => (hwr' l m).2.2.1 e, nx, a2.at fun o => hk _ o fun m => ny (hwr' xa m).1, r⟩
  have trK : ∀ {h1 h2 h3 : Heap}, KpS c.env c.ln (wr ++ O) h1 h2 → KpS c.env c.ln (wr ++ O) h2 h3 → KpS c.env c.ln (wr ++ O) h1 h3 := fun a b => a.trans b fun _ m => .inl m
  by_cases hlt : i < ts.length
  · refine K.W.item i _ _ _ hlt hst fun v h1 tk1 hMd hk1 => K.W.go i v _ _ _ hMd fun h2 hP hst2 hk2 => ?_
    have hk : ∀ b o, b ∉ wr → s'.heap.get? b = some o → h2.get? b = some o := fun b o n e => hk2 b o n (hk1 b o n e)
    have I2 : Inv c.base c.env c.ln O' X' σ' h2 := I'.step hk hwr' (K.ex i _ hst) (K.ex (i + 1) _ hst2)
    have sq2 : Sq (wr ++ X) s2.heap h2 := fun a o ha d e => hk a o (fun m => ha (List.mem_append_left _ m)) (sq a o ha d e)
    obtain ⟨t, et, hit⟩ := K.itm i v h2 hlt hP
    have hit2 : Itm c.ln X' h2 v t := by
      rcases hit with r | ⟨T, us, ss, e1, e2, ht, r⟩
      · exact .inl (RVs.mono sq2 g.hn r)
      · exact .inr ⟨T, us, ss, e1, e2, ht, r.mono sq2 g.hn⟩
    obtain ⟨hA, tA, rfl⟩ := hs'
    have kk2 := trK kk (stepK σ' _ _ I' hk fun b m => let ⟨o, e, _⟩ := K.ex (i + 1) _ hst2 b m; ⟨o, e⟩)
    refine wpAny_mono (turn i t σ' et hJ O' X' _ ⟨h2, s2.gens, s2.drawn, tk1, s2.os⟩ v L I2 hit2) (fun _ s3 h3 => ?_) fun _ _ x => x
    obtain ⟨⟨hB, tB, rfl⟩, k3, σ3, I3, h3⟩ := h3
    refine wpAny_mono (h3 O' X' _ _ L I3) (fun f s4 h4 => ?_) fun _ _ x => x
    obtain ⟨⟨hC, tC, rfl⟩, k4, h4⟩ := h4
    have hoE : ∀ b ∈ O', b ∈ wr ++ O ∨ s2.heap.get? b = none := fun b m => (g.ho b m).imp (List.mem_append_right _) id
    have k34 : KpS c.env c.ln O' h2 hC := k3.trans k4 fun _ m => .inl m
    have kkB := kk2.trans k3 hoE
    have kkC := kk2.trans k34 hoE
    have sqC : Sq (wr ++ X) s2.heap hC := fun a o ha d e => by
      refine kkC.keep a o (fun q => ?_) (fun q => ha (K.inv.li a q).1) e
      refine Mut.data K.inv e d (fun m => ha (K.inv.ox a m)) ?_
      rcases q with q | q | q
      · exact .inl q
      · exact .inr (.inl q)
      · rcases List.mem_append.mp q with q | q
        · exact absurd (List.mem_append_left _ q) ha
        · exact .inr (.inr q)
    cases f with
    | next =>
      obtain ⟨O2, X2, σ4, I4, g4, σ5, le5, hJ'⟩ := h4
      refine ⟨ts.length + 1 - (i + 1), by omega, i + 1, O2, X2, σ5, rfl, hlt, ⟨hC, tC, rfl⟩, kkC, K.W.frame (i + 1) h2 hC hst2 (fun b m o e => k34.keep b o (hfpO b m) (K.fp b m).2.1 e), I4.le le5, sqC, ?_, hJ'⟩
      have bk : ∀ b, hB.get? b = none → s2.heap.get? b = none := fun b z => by
        cases e : s2.heap.get? b with
        | none => rfl
        | some o =>
          obtain ⟨o', e'⟩ := kkB.live b o e
          have e'' : hB.get? b = some o' := e'
          rw [z] at e''; cases e''
      exact ⟨fun b m => (g4.ho b m).elim (g.ho b) fun z => .inr (bk b z), fun b m => g4.hx b (g.hx b m), fun b m => (g4.hn b m).elim (g.hn b) fun z => .inr (bk b z)⟩
    | ret v =>
      obtain ⟨t, Xr, r, h5, q⟩ := h4
      obtain ⟨hZ, tZ, e2⟩ := K.kp.same
      refine ⟨⟨hC, tC, by rw [e2]⟩, (KpS.of I K.kp.kp).trans (O' := wr ++ O) kkC (fun b m => (List.mem_append.mp m).elim (fun z => .inr (K.new b z)) .inl), t, Xr, r, fun b m => ?_, q⟩
      rcases h5 b (g.hx b (List.mem_append_right _ m)) with z | z
      · exact .inl z
      · rcases g.ho b z with z | z
        · exact .inr z
        · obtain ⟨o, e, _⟩ := K.inv.xs b (List.mem_append_right _ m)
          rw [z] at e; cases e
    | brk => exact h4.elim
    | cont => exact h4.elim
  · have hin : i = ts.length := by omega
    subst hin
    refine K.W.done _ _ _ hst fun h1 tk1 hk1 => wpAny_execs_nil ?_
    have I1 := I'.dropW hk1 hwr' (K.ex _ _ hst)
    have sl := K.kp.kp
    obtain ⟨hZ, tZ, e2⟩ := K.kp.same
    obtain ⟨hA, tA, rfl⟩ := hs'
    have bk : ∀ b, s2.heap.get? b = none → s.heap.get? b = none := fun b z => by
      cases e : s.heap.get? b with
      | none => rfl
      | some o =>
        obtain ⟨o', e'⟩ := (KpS.of I sl).live b o e
        rw [z] at e'; cases e'
    have hXw : ∀ b ∈ X, b ∉ wr := fun b m z => by
      obtain ⟨o, e, _⟩ := I.xs b m
      rw [K.new b z] at e; cases e
    have kD : KpS c.env c.ln O s.heap h1 := by
      have ka := (KpS.of I sl).trans (O' := wr ++ O) kk (fun b m => (List.mem_append.mp m).elim (fun z => .inr (K.new b z)) .inl)
      refine ⟨fun b o n q e => hk1 b o (fun z => by rw [K.new b z] at e; cases e) (ka.keep b o n q e), fun b o e => ?_, fun l Y e x => ?_⟩
      · obtain ⟨o', e'⟩ := ka.live b o e
        exact ⟨o', hk1 b o' (fun z => by rw [K.new b z] at e; cases e) e'⟩
      · obtain ⟨xa, kq, t, vs, is, a1, nx, a2, r⟩ := ka.line l Y e x
        obtain ⟨xa', kq', t', vs', is', b1, ny, b2, r'⟩ := (I'.li l e).2.1
        have e1 := IsList.uni a1 b1
        have e2 : xa = xa' := by injection e1 with e; injection e with e; injection e
        subst e2
        exact ⟨xa, kq, t, vs, is, a1.at fun o => hk1 _ o fun m => (hwr' l m).2.2.1 e, nx, a2.at fun o => hk1 _ o fun m => ny (hwr' xa m).1, r⟩
    refine ⟨⟨h1, tk1, by rw [e2]⟩, kD, O', _, σ', I1, ⟨fun b m => (g.ho b m).imp id (bk b), fun b m => List.mem_filter.mpr ⟨g.hx b (List.mem_append_right _ m), by simpa using hXw b m⟩, fun b m => ?_⟩, fin σ' hJ⟩
    obtain ⟨m1, m2⟩ := List.mem_filter.mp m
    rcases g.hn b m1 with z | z
    · rcases List.mem_append.mp z with z | z
      · simp at m2; exact absurd z m2
      · exact .inl z
    · exact .inr (bk b z)
end
end Mine
end B7_part
section B8_part
open PySem PySem.Calls PyProof.Rows PySem.W
namespace Mine

section
variable {c : Cx} {σ : Sg} {Q : Out → Prop}

theorem isData_live {o : Obj} (d : isData o = true) : o.isFreed = false := by
  obtain ⟨_, _, dt, _⟩ := o
  cases dt <;> first | rfl | cases d
theorem itm_list {ln X h} {us : List Value} {ts : List AV} (r : RVs ln X h us ts) {i : Nat} {v} (e : us.toArray[i]? = some v) : ∃ t, ts[i]? = some t ∧ RV ln X h v t := r.get (by simpa using e)

theorem kp_push_inv {base env ln O X h} (I : Inv base env ln O X σ h) (o : Obj) : Inv base env ln O X σ (h.push o) := I.kp (.grow fun _ _ e => Heap.get?_push_of_some _ e)
/-- a new walk's object is avoided -/
theorem Inv.avoid {base env ln O X h h' a} (I : Inv base env ln O X σ h) (k : KpH ln h h') (hf : h.get? a = none) (hd : ∃ o, h'.get? a = some o ∧ isData o = true) : Inv base env ln O (a :: X) σ h' := by
  have I' := I.own k hf hd
  exact { I' with
    rd := fun x t e => by
      obtain ⟨v, r, q⟩ := I'.rd x t e
      refine ⟨v, r, ?_⟩
      cases t with
      | val t => exact q
      | own pl ts =>
        obtain ⟨b, us, e1, ho, hl, l, p, rr⟩ := q
        obtain ⟨v0, r0, q0⟩ := I.rd x _ e
        obtain ⟨b0, us0, e0, ho0, hl0, l0, p0, rr0⟩ := q0
        have hv : v = v0 := by
          rcases r with ⟨k1, m, n, em⟩ | ⟨k1, cc, lk, n⟩ <;> rcases r0 with ⟨k2, m', n', em'⟩ | ⟨k2, cc', lk', n'⟩
          · have := Ns.kp I k n'
            cases Ns.uni n this; rw [em] at em'; exact Option.some.inj em'
          · rcases k2 with k2 | k2 <;> (rw [k1] at k2; cases k2)
          · rcases k1 with k1 | k1 <;> (rw [k2] at k1; cases k1)
          · rw [lk] at lk'; cases lk'
            have := IsCell.uni n (IsCell.kp I k n')
            exact Option.some.inj this
        subst hv; subst e1
        cases e0
        exact ⟨b, us, rfl, ho0, hl, l, p, rr⟩
    ox := fun b m => .tail _ (I.ox b m)
    ob := I.ob }

theorem It_list {target iter} {K : List AV → Prop} (hh : c.A.handled = none) (h : EW c σ iter fun t => ∃ ts, t = .list ts ∧ K ts) (hg : ∀ it v, letOwnedTupleGo target it v = pure () := by intro _ _; rfl) : ItW c σ target iter K := fun O X E s I => by
  refine wpAny_mono (h O X E s I) (fun v s1 h1 => ?_) fun _ _ x => x
  obtain ⟨k1, t, r, ts, rfl, hK⟩ := h1
  obtain ⟨a, us, rfl, hx, l, r⟩ := r.list_inv
  have I1 := I.kp k1.kp
  have hlt : a < s1.heap.objs.size := let ⟨o, e, _⟩ := l; Heap.lt_size e
  have hne : a ≠ s1.heap.objs.size := Nat.ne_of_lt hlt
  refine wpAny_pyIter_list l ?_
  have k2 : Kp c.ln s1 { s1 with heap := s1.heap.push { cls := .type "list_iterator", data := .fields #[.ref a, .int 0 0] } } := .push _
  have W := KTurns.ofWalks (target := target) (Walks.list (prog := c.prog) (w := c.w) hh s1.heap.objs.size a hne us.toArray) (fun i v s Q E _ q => by rw [hg]; exact wpAny_pure q)
  have e1 : us.toArray.size = ts.length := by rw [List.size_toArray, r.len]
  rw [e1] at W
  have hI : (s1.heap.push { cls := .type "list_iterator", data := .fields #[.ref a, .int 0 0] } : Heap).get? s1.heap.objs.size = some { cls := .type "list_iterator", data := .fields #[.ref a, .int 0 0] } := Heap.get?_push_size _ rfl
  have l' : (s1.heap.push { cls := .type "list_iterator", data := .fields #[.ref a, .int 0 0] } : Heap).IsList a us.toArray := l.push _
  have r' : RVs c.ln ([s1.heap.objs.size] ++ X) (s1.heap.push { cls := .type "list_iterator", data := .fields #[.ref a, .int 0 0] } : Heap) us ts := r.mono (fun b o _ _ e => Heap.get?_push_of_some _ e) fun b m => by
    rcases List.mem_cons.mp m with rfl | m
    · exact .inr (get_size _)
    · exact .inl m
  refine ⟨s1.heap.objs.size, _, _, _, _, _, ts, rfl, ItOk.mk W (fun s Q E st q => (Walks.list (prog := c.prog) (w := c.w) hh s1.heap.objs.size a hne us.toArray).self 0 s Q E st q) ⟨⟨_, hI, rfl, rfl⟩, l'⟩ (k1.trans k2) (I1.avoid k2.kp (get_size _) ⟨_, hI, rfl⟩) (fun b m => ?_) (fun b m => ?_) (fun i h st b m => ?_) (fun i v h' hi hP => ?_), hK⟩
  · have ho : ∀ d, d ∉ X → d ∉ O ∧ c.ln ≠ some d := fun d n => ⟨fun q => n (I.ox d q), fun q => n (I.li d q).1⟩
    rcases List.mem_cons.mp m with rfl | m
    · exact ⟨(ho _ (fresh_notin I1)).1, (ho _ (fresh_notin I1)).2, _, hI, rfl⟩
    · rw [List.mem_singleton.mp m]
      obtain ⟨o, e, _, n, d⟩ := l'
      exact ⟨(ho _ hx).1, (ho _ hx).2, o, e, by unfold isData; rw [d]⟩
  · rw [List.mem_singleton.mp m]
    cases e : s.heap.get? s1.heap.objs.size with
    | none => rfl
    | some o =>
      obtain ⟨o', e'⟩ := (KpS.of I k1.kp).live _ o e
      exact absurd (Heap.lt_size e') (Nat.lt_irrefl _)
  · rw [List.mem_singleton.mp m]
    obtain ⟨o, e, _, d⟩ := st.1
    exact ⟨o, e, by unfold isData; rw [d]⟩
  · obtain ⟨t, et, rt⟩ := itm_list r' hP
    exact ⟨t, et, .inl rt⟩

noncomputable def rngL (a c : Int) (n : Nat) : List AV := (List.range n).map fun (i : Nat) => AV.int (a + (i : Int) * c)
theorem new_at {base env ln O X h h'} (I : Inv base env ln O X σ h) (k : KpH ln h h') {b} (hb : h'.objs.size ≤ b) : h.get? b = none := by
  cases e : h.get? b with
  | none => rfl
  | some o =>
    obtain ⟨o', e'⟩ := (KpS.of I k).live _ o e
    exact absurd (Nat.lt_of_lt_of_le (Heap.lt_size e') hb) (Nat.lt_irrefl _)
theorem off_of {base env ln O X h d} (I : Inv base env ln O X σ h) (n : d ∉ X) : d ∉ O ∧ ln ≠ some d := ⟨fun q => n (I.ox d q), fun q => n (I.li d q).1⟩

theorem It_rng {target iter} {K : List AV → Prop} (hh : c.A.handled = none) (h : EW c σ iter fun t => ∃ a b d, t = .rng a b d ∧ Builtin.Range.small a b d = true ∧ 0 ≤ Builtin.Range.rangeSize a b d ∧ K (rngL a d (Builtin.Range.rangeSize a b d).toNat))
    (hg : ∀ it v, letOwnedTupleGo target it v = pure () := by intro _ _; rfl) : ItW c σ target iter K := fun O X E s I => by
  refine wpAny_mono (h O X E s I) (fun v s1 h1 => ?_) fun _ _ x => x
  obtain ⟨k1, t, r, a, b, d, rfl, hsm, hpos, hK⟩ := h1
  obtain ⟨x, t1, t2, t3, rfl, hx, hr⟩ := r.rng_inv
  have I1 := I.kp k1.kp
  refine wpAny_pyIter_range hr hsm ?_
  generalize hN : (Builtin.Range.rangeSize a b d).toNat = N at hK
  have hn : Builtin.Range.rangeSize a b d = (N : Int) := by omega
  rw [hn]
  have k2 : Kp c.ln s1 { s1 with heap := s1.heap.push { cls := .type "range_iterator", data := .fields #[rawInt a, rawInt (N : Int), rawInt d] } } := .push _
  have W := KTurns.ofWalks (target := target) (Walks.range (prog := c.prog) (w := c.w) hh s1.heap.objs.size a d N) (fun i v s Q E _ q => by rw [hg]; exact wpAny_pure q)
  have e1 : N = (rngL a d N).length := by simp [rngL]
  have hI : (s1.heap.push { cls := .type "range_iterator", data := .fields #[rawInt a, rawInt (N : Int), rawInt d] } : Heap).get? s1.heap.objs.size = some { cls := .type "range_iterator", data := .fields #[rawInt a, rawInt (N : Int), rawInt d] } := Heap.get?_push_size _ rfl
  have st0 : IsRangeIter (s1.heap.push { cls := .type "range_iterator", data := .fields #[rawInt a, rawInt (N : Int), rawInt d] }) s1.heap.objs.size (a + ((0 : Nat) : Int) * d) ((N : Int) - ((0 : Nat) : Int)) d := by
    have z1 : a + ((0 : Nat) : Int) * d = a := by simp
    have z2 : (N : Int) - ((0 : Nat) : Int) = N := by simp
    rw [z1, z2]; exact hI
  rw [e1] at W
  rw [← e1] at W
  have W' : KTurns c.prog c.w c.A target s1.heap.objs.size [s1.heap.objs.size] [s1.heap.objs.size] (rngL a d N).length (fun i v _ => ∃ t, v = .int (a + i * d) t) (fun i v h => (∃ t, v = .int (a + i * d) t) ∧ IsRangeIter h s1.heap.objs.size (a + ((i + 1 : Nat) : Int) * d) ((N : Int) - ((i + 1 : Nat) : Int)) d) (fun i h => IsRangeIter h s1.heap.objs.size (a + ((i : Nat) : Int) * d) ((N : Int) - ((i : Nat) : Int)) d) := by
    rw [← e1]; exact W
  refine ⟨s1.heap.objs.size, _, _, _, _, _, rngL a d N, rfl, ItOk.mk W' (fun s Q E st q => (Walks.range (prog := c.prog) (w := c.w) hh s1.heap.objs.size a d N).self 0 s Q E st q) st0 (k1.trans k2) (I1.avoid k2.kp (get_size _) ⟨_, hI, rfl⟩) (fun b m => ?_) (fun b m => ?_) (fun i h st b m => ?_) (fun i v h' hi hP => ?_), hK⟩
  · rw [List.mem_singleton.mp m]
    exact ⟨(off_of I1 (fresh_notin I1)).1, (off_of I1 (fresh_notin I1)).2, _, hI, rfl⟩
  · rw [List.mem_singleton.mp m]
    exact new_at I k1.kp (Nat.le_refl _)
  · rw [List.mem_singleton.mp m]
    exact ⟨_, st, rfl⟩
  · obtain ⟨t, rfl⟩ := hP
    rw [← e1] at hi
    refine ⟨.int (a + i * d), ?_, .inl (.int .nil)⟩
    simp [rngL, hi]

theorem It_tup {target iter} {K : List AV → Prop} (hh : c.A.handled = none) (h : EW c σ iter fun t => ∃ ts, t = .tup ts ∧ K ts) (hg : ∀ it v, letOwnedTupleGo target it v = pure () := by intro _ _; rfl) : ItW c σ target iter K := fun O X E s I => by
  refine wpAny_mono (h O X E s I) (fun v s1 h1 => ?_) fun _ _ x => x
  obtain ⟨k1, t, r, ts, rfl, hK⟩ := h1
  obtain ⟨a, us, n, rfl, hx, l, r⟩ := r.tup_inv
  have I1 := I.kp k1.kp
  have l0 : s1.heap.IsTuple a us.toArray := ⟨_, l, rfl, n, rfl⟩
  have hlt : a < s1.heap.objs.size := Heap.lt_size l
  have hne : a ≠ s1.heap.objs.size := Nat.ne_of_lt hlt
  refine wpAny_pyIter_tuple l0 ?_
  have k2 : Kp c.ln s1 { s1 with heap := s1.heap.push { cls := .type "tuple_iterator", data := .fields #[.ref a, .int 0 0] } } := .push _
  have W := KTurns.ofWalks (target := target) (Walks.tuple (prog := c.prog) (w := c.w) hh s1.heap.objs.size a hne us.toArray) (fun i v s Q E _ q => by rw [hg]; exact wpAny_pure q)
  have e1 : us.toArray.size = ts.length := by rw [List.size_toArray, r.len]
  rw [e1] at W
  have hI : (s1.heap.push { cls := .type "tuple_iterator", data := .fields #[.ref a, .int 0 0] } : Heap).get? s1.heap.objs.size = some { cls := .type "tuple_iterator", data := .fields #[.ref a, .int 0 0] } := Heap.get?_push_size _ rfl
  have l' : (s1.heap.push { cls := .type "tuple_iterator", data := .fields #[.ref a, .int 0 0] } : Heap).IsTuple a us.toArray := l0.push _
  have r' : RVs c.ln ([s1.heap.objs.size] ++ X) (s1.heap.push { cls := .type "tuple_iterator", data := .fields #[.ref a, .int 0 0] } : Heap) us ts := r.mono (fun b o _ _ e => Heap.get?_push_of_some _ e) fun b m => by
    rcases List.mem_cons.mp m with rfl | m
    · exact .inr (get_size _)
    · exact .inl m
  refine ⟨s1.heap.objs.size, _, _, _, _, _, ts, rfl, ItOk.mk W (fun s Q E st q => (Walks.tuple (prog := c.prog) (w := c.w) hh s1.heap.objs.size a hne us.toArray).self 0 s Q E st q) ⟨⟨_, hI, rfl, rfl⟩, l'⟩ (k1.trans k2) (I1.avoid k2.kp (get_size _) ⟨_, hI, rfl⟩) (fun b m => ?_) (fun b m => ?_) (fun i h st b m => ?_) (fun i v h' hi hP => ?_), hK⟩
  · rcases List.mem_cons.mp m with rfl | m
    · exact ⟨(off_of I1 (fresh_notin I1)).1, (off_of I1 (fresh_notin I1)).2, _, hI, rfl⟩
    · rw [List.mem_singleton.mp m]
      obtain ⟨o, e, _, n, d⟩ := l'
      exact ⟨(off_of I1 hx).1, (off_of I1 hx).2, o, e, by unfold isData; rw [d]⟩
  · rw [List.mem_singleton.mp m]
    exact new_at I k1.kp (Nat.le_refl _)
  · rw [List.mem_singleton.mp m]
    obtain ⟨o, e, _, d⟩ := st.1
    exact ⟨o, e, by unfold isData; rw [d]⟩
  · obtain ⟨t, et, rt⟩ := itm_list r' hP
    exact ⟨t, et, .inl rt⟩

/-- enumerate and reversed, by their names -/
theorem bi_eval {mg x px e pos f} {R : Value → Shared → Prop} {O X E s} (G : Glb c.base mg) (I : Inv c.base c.env c.ln O X σ s.heap) (hx : x ∈ bnames) (hv : bootBuiltins x = some (.type f)) (hk : c.env.kindOf x = some .globalImplicit)
    (h : wpAny (model c.prog c.w) c.A (eval e c.env) (fun v s1 => wpAny (model c.prog c.w) c.A (call (.type f) [v]) R E s1) E s) (hd : (x == ("__debug__" : Str)) = false)
    (he : ∀ env, starEach [e] env = (false, eval e env) :: starEach [] env)
    (hc : ∀ env, eval (.Call (.Name x px) [e] [] pos) env = (do callWith pos (← eval (.Name x px) env) [] (backTo pos (starEach [e] env)) (backToKw pos (keywordEach [] env)))) :
    wpAny (model c.prog c.w) c.A (eval (.Call (.Name x px) [e] [] pos) c.env) R E s := by
  obtain ⟨mb, hb, hmb⟩ := G.b
  refine Call_ (Name_function_global I.fk hk (loadGlobal_builtin (by rw [I.gl.1]; exact G.g.keeps I.bs) (G.nob x hx) (by rw [I.gl.2]; exact hb.keeps I.bs) ((hmb x hx).trans hv) ?_) hd) (hc _)
  have go : wpAny (model c.prog c.w) c.A (spliced (backTo pos (starEach [e] c.env))) (fun vs s1 => wpAny (model c.prog c.w) c.A (call (.type f) vs) R E s1) E s :=
    args_cons (wpAny_mono h (fun v s1 h1 => args_nil h1) fun _ _ x => x) (he _)
  rw [he] at go ⊢
  exact PyProof.Rows.callWith_type rfl (evalArgs_plain go)

noncomputable def enumL : Nat → List AV → List AV
  | _, [] => []
  | i, t :: ts => .tup [.int i, t] :: enumL (i + 1) ts
theorem enumL_len : ∀ i (ts : List AV), (enumL i ts).length = ts.length
  | _, [] => rfl
  | i, t :: ts => by simp [enumL, enumL_len]
theorem enumL_get : ∀ (j : Nat) (ts : List AV) (i : Nat) (t : AV), ts[i]? = some t → (enumL j ts)[i]? = some (.tup [.int ((j + i : Nat) : Int), t])
  | _, [], i, t, e => by simp at e
  | j, u :: ts, 0, t, e => by simp at e; subst e; simp [enumL]
  | j, u :: ts, i + 1, t, e => by
    simp at e
    simp only [enumL, List.getElem?_cons_succ]
    rw [enumL_get (j + 1) ts i t e]
    have : j + 1 + i = j + (i + 1) := by omega
    rw [this]

theorem It_enum {mg elts k tpos x px e pos} {K : List AV → Prop} (G : Glb c.base mg) (hh : c.A.handled = none) (hx0 : x = ("enumerate" : Str)) (h : EW c σ e fun t => ∃ ts, t = .list ts ∧ K (enumL 0 ts))
    (hk : c.env.kindOf x = some .globalImplicit := by rfl)
    (he : ∀ env, starEach [e] env = (false, eval e env) :: starEach [] env := by intro _; rfl)
    (hc : ∀ env, eval (.Call (.Name x px) [e] [] pos) env = (do callWith pos (← eval (.Name x px) env) [] (backTo pos (starEach [e] env)) (backToKw pos (keywordEach [] env))) := by intro _; rfl) :
    ItW c σ (.Tuple elts k tpos) (.Call (.Name x px) [e] [] pos) K := fun O X E s I => by
  subst hx0
  refine bi_eval G I (by decide) (f := "enumerate") (by decide +kernel) hk ?_ (by decide) he hc
  refine wpAny_mono (h O X E s I) (fun v s1 h1 => ?_) fun _ _ x => x
  obtain ⟨k1, t, r, ts, rfl, hK⟩ := h1
  obtain ⟨a, us, rfl, hx, l, r⟩ := r.list_inv
  have I1 := I.kp k1.kp
  have hlt : a < s1.heap.objs.size := let ⟨o, e, _⟩ := l; Heap.lt_size e
  refine call_enumerate_list l fun h2 he2 hit2 hsz hk2 => ?_
  refine wpAny_pyIter_enum he2 ?_
  have k2 : Kp c.ln s1 { s1 with heap := h2 } := .grow hk2
  have W := KTurns.ofWalksU (elts := elts) (k := k) (pos := tpos) (WalksT.enumerate (prog := c.prog) (w := c.w) hh (s1.heap.objs.size + 1) s1.heap.objs.size a (Nat.succ_ne_self _) (Nat.ne_of_lt (Nat.lt_succ_of_lt hlt)) (Nat.ne_of_lt hlt) us.toArray).toU
  have e1 : us.toArray.size = (enumL 0 ts).length := by rw [List.size_toArray, r.len, enumL_len]
  rw [e1] at W
  have l' : h2.IsList a us.toArray := l.at fun o => hk2 _ o
  have n1 : s1.heap.get? (s1.heap.objs.size + 1) = none := by
    cases q : s1.heap.get? (s1.heap.objs.size + 1) with
    | none => rfl
    | some o => exact absurd (Heap.lt_size q) (Nat.not_lt.mpr (Nat.le_succ _))
  have hitO : ∃ o, h2.get? s1.heap.objs.size = some o ∧ isData o = true := by
    obtain ⟨o, e, _, d⟩ := hit2
    exact ⟨o, e, by unfold isData; rw [d]⟩
  have I2 : Inv c.base c.env c.ln O (s1.heap.objs.size :: X) σ h2 := I1.avoid k2.kp (get_size _) hitO
  have I3 : Inv c.base c.env c.ln O ([s1.heap.objs.size + 1, s1.heap.objs.size] ++ X) σ h2 := by
    obtain ⟨o, eo, dd⟩ := hitO
    have kA : KpH c.ln s1.heap (s1.heap.push o) := .grow fun _ _ e => Heap.get?_push_of_some _ e
    have IA : Inv c.base c.env c.ln O (s1.heap.objs.size :: X) σ (s1.heap.push o) := I1.avoid kA (get_size _) ⟨o, Heap.get?_push_size _ (isData_live dd), dd⟩
    have kB : KpH c.ln (s1.heap.push o) h2 := .grow fun b o' e => by
      rcases Heap.get?_push_cases e with ⟨rfl, rfl⟩ | z
      · exact eo
      · exact hk2 _ _ z
    refine IA.avoid kB ?_ ⟨_, he2, rfl⟩
    cases z : (s1.heap.push o).get? (s1.heap.objs.size + 1) with
    | none => rfl
    | some o2 =>
      have hb2 := Heap.lt_size z
      rw [Heap.size_push] at hb2
      exact absurd hb2 (Nat.lt_irrefl _)
  have r' : RVs c.ln ([s1.heap.objs.size + 1, s1.heap.objs.size] ++ X) h2 us ts := r.mono (fun b o _ _ e => hk2 b o e) fun b m => by
    rcases List.mem_cons.mp m with rfl | m
    · exact .inr n1
    · rcases List.mem_cons.mp m with rfl | m
      · exact .inr (get_size _)
      · exact .inl m
  refine ⟨s1.heap.objs.size + 1, _, _, _, _, _, enumL 0 ts, rfl, ItOk.mk W (fun s Q E st q => let ⟨⟨old, e⟩, _⟩ := st; wpAny_pyIter_enum e q) ⟨⟨_, he2⟩, hit2, l'⟩ (k1.trans k2) I3 (fun b m => ?_) (fun b m => ?_) (fun i h st b m => ?_) (fun i v h' hi hP => ?_), hK⟩
  · have nX1 : s1.heap.objs.size + 1 ∉ X := fun q => by
      obtain ⟨o, e, _⟩ := I1.xs _ q
      rw [n1] at e; cases e
    rcases List.mem_cons.mp m with rfl | m
    · exact ⟨(off_of I1 nX1).1, (off_of I1 nX1).2, _, he2, rfl⟩
    · rcases List.mem_cons.mp m with rfl | m
      · exact ⟨(off_of I1 (fresh_notin I1)).1, (off_of I1 (fresh_notin I1)).2, hitO⟩
      · rw [List.mem_singleton.mp m]
        obtain ⟨o, e, _, n, d⟩ := l'
        exact ⟨(off_of I1 hx).1, (off_of I1 hx).2, o, e, by unfold isData; rw [d]⟩
  · rcases List.mem_cons.mp m with rfl | m
    · exact new_at I k1.kp (Nat.le_succ _)
    · rw [List.mem_singleton.mp m]
      exact new_at I k1.kp (Nat.le_refl _)
  · obtain ⟨⟨old, s1'⟩, s2', s3'⟩ := st
    rcases List.mem_cons.mp m with rfl | m
    · exact ⟨_, s1', rfl⟩
    · rw [List.mem_singleton.mp m]
      obtain ⟨o, e, _, d⟩ := s2'
      exact ⟨o, e, by unfold isData; rw [d]⟩
  · obtain ⟨T, vals, rfl, ⟨tk, x, ex, rfl⟩, hT⟩ := hP
    obtain ⟨t, et, rt⟩ := itm_list r' ex
    refine ⟨.tup [.int i, t], ?_, .inr ⟨T, [.int i tk, x], [.int i, t], rfl, ⟨rfl, _, _, rfl⟩, hT, .int rt⟩⟩
    have := enumL_get 0 ts i t et
    simpa using this

theorem It_rev {mg target x px e pos} {K : List AV → Prop} (G : Glb c.base mg) (hh : c.A.handled = none) (hx0 : x = ("reversed" : Str)) (h : EW c σ e fun t => ∃ ts, t = .list ts ∧ K ts.reverse) (hg : ∀ it v, letOwnedTupleGo target it v = pure () := by intro _ _; rfl)
    (hk : c.env.kindOf x = some .globalImplicit := by rfl)
    (he : ∀ env, starEach [e] env = (false, eval e env) :: starEach [] env := by intro _; rfl)
    (hc : ∀ env, eval (.Call (.Name x px) [e] [] pos) env = (do callWith pos (← eval (.Name x px) env) [] (backTo pos (starEach [e] env)) (backToKw pos (keywordEach [] env))) := by intro _; rfl) :
    ItW c σ target (.Call (.Name x px) [e] [] pos) K := fun O X E s I => by
  subst hx0
  refine bi_eval G I (by decide) (f := "reversed") (by decide +kernel) hk ?_ (by decide) he hc
  refine wpAny_mono (h O X E s I) (fun v s1 h1 => ?_) fun _ _ x => x
  obtain ⟨k1, t, r, ts, rfl, hK⟩ := h1
  obtain ⟨a, us, rfl, hx, l, r⟩ := r.list_inv
  have I1 := I.kp k1.kp
  have hlt : a < s1.heap.objs.size := let ⟨o, e, _⟩ := l; Heap.lt_size e
  have hne : a ≠ s1.heap.objs.size := Nat.ne_of_lt hlt
  refine call_reversed_list l ?_
  have hI : (s1.heap.push (revObj a ((us.toArray.size : Int) - 1))).get? s1.heap.objs.size = some (revObj a ((us.toArray.size : Int) - 1)) := Heap.get?_push_size _ rfl
  refine wpAny_pyIter_revIter (i := (us.toArray.size : Int) - 1) (l := a) ⟨_, hI, rfl, rfl⟩ ?_
  have k2 : Kp c.ln s1 { s1 with heap := s1.heap.push (revObj a ((us.toArray.size : Int) - 1)) } := .push _
  have W := KTurns.ofWalks (target := target) (Walks.listRev (prog := c.prog) (w := c.w) hh s1.heap.objs.size a hne us.toArray) (fun i v s Q E _ q => by rw [hg]; exact wpAny_pure q)
  have e1 : us.toArray.size = ts.reverse.length := by rw [List.size_toArray, r.len, List.length_reverse]
  have l' : (s1.heap.push (revObj a ((us.toArray.size : Int) - 1))).IsList a us.toArray := l.push _
  have r' : RVs c.ln ([s1.heap.objs.size] ++ X) (s1.heap.push (revObj a ((us.toArray.size : Int) - 1))) us ts := r.mono (fun b o _ _ e => Heap.get?_push_of_some _ e) fun b m => by
    rcases List.mem_cons.mp m with rfl | m
    · exact .inr (get_size _)
    · exact .inl m
  have st0 : 0 ≤ us.toArray.size ∧ (s1.heap.push (revObj a ((us.toArray.size : Int) - 1))).IsRevIter s1.heap.objs.size a ((us.toArray.size : Int) - 1 - ((0 : Nat) : Int)) ∧ (s1.heap.push (revObj a ((us.toArray.size : Int) - 1))).IsList a us.toArray := ⟨Nat.zero_le _, by
    have : (us.toArray.size : Int) - 1 - ((0 : Nat) : Int) = (us.toArray.size : Int) - 1 := by simp
    rw [this]; exact ⟨_, hI, rfl, rfl⟩, l'⟩
  rw [e1] at W
  refine ⟨s1.heap.objs.size, _, _, _, _, _, ts.reverse, rfl, ItOk.mk W (fun s Q E st q => (Walks.listRev (prog := c.prog) (w := c.w) hh s1.heap.objs.size a hne us.toArray).self 0 s Q E (by rw [← e1] at st; exact st) q) (by rw [← e1]; exact st0) (k1.trans k2) (I1.avoid k2.kp (get_size _) ⟨_, hI, rfl⟩) (fun b m => ?_) (fun b m => ?_) (fun i h st b m => ?_) (fun i v h' hi hP => ?_), hK⟩
  · rcases List.mem_cons.mp m with rfl | m
    · exact ⟨(off_of I1 (fresh_notin I1)).1, (off_of I1 (fresh_notin I1)).2, _, hI, rfl⟩
    · rw [List.mem_singleton.mp m]
      obtain ⟨o, e, _, n, d⟩ := l'
      exact ⟨(off_of I1 hx).1, (off_of I1 hx).2, o, e, by unfold isData; rw [d]⟩
  · rw [List.mem_singleton.mp m]
    exact new_at I k1.kp (Nat.le_refl _)
  · rw [List.mem_singleton.mp m]
    obtain ⟨o, e, _, d⟩ := st.2.1
    exact ⟨o, e, by unfold isData; rw [d]⟩
  · obtain ⟨t, et, rt⟩ := itm_list r' hP
    refine ⟨t, ?_, .inl rt⟩
    rw [List.length_reverse] at et hi
    rw [List.getElem?_reverse hi]
    exact et
end
end Mine
end B8_part
section B9_part
open PySem PySem.Calls PyProof.Rows PySem.W
namespace Mine

/-- all but some objects is kept -/
structure KpW (ln : Option Addr) (ws : List Addr) (h h' : Heap) : Prop where
  keep : ∀ b o, b ∉ ws → ln ≠ some b → h.get? b = some o → h'.get? b = some o
  line : ∀ l Y, ln = some l → LineOk Y h l → LineOk Y h' l
theorem KpW.refl {ln ws h} : KpW ln ws h h := ⟨fun _ _ _ _ e => e, fun _ _ _ x => x⟩
theorem KpW.trans {ln ws h h' h''} (a : KpW ln ws h h') (b : KpW ln ws h' h'') : KpW ln ws h h'' :=
  ⟨fun c o n m e => b.keep c o n m (a.keep c o n m e), fun l Y e x => b.line l Y e (a.line l Y e x)⟩
theorem KpW.up {ln ws ws' h h'} (a : KpW ln ws h h') (s : ∀ b ∈ ws, b ∈ ws') : KpW ln ws' h h' := ⟨fun b o n m e => a.keep b o (fun q => n (s b q)) m e, a.line⟩
theorem KpW.kp {ln h h'} (a : KpH ln h h') (ws : List Addr) : KpW ln ws h h' := ⟨fun b o _ m e => a.keep b o m e, a.line⟩

/-- a step that touches no more than ws -/
theorem KpW.step {base env ln O X σ h h'} {ws : List Addr} (I : Inv base env ln O X σ h) (hk : ∀ b o, b ∉ ws → h.get? b = some o → h'.get? b = some o) (hs : ∀ b ∈ ws, (b ∈ X ∧ ln ≠ some b) ∨ ∃ o, h.get? b = some o ∧ isData o = false) : KpW ln ws h h' := by
  refine ⟨fun b o n _ e => hk b o n e, fun l Y e x => ?_⟩
  obtain ⟨xa, kq, t, vs, is, a1, nx, a2, r⟩ := x
  obtain ⟨xa', kq', t', vs', is', b1, ny, b2, r'⟩ := (I.li l e).2.1
  have e1 := IsList.uni a1 b1
  have e2 : xa = xa' := by injection e1 with e; injection e with e; injection e
  subst e2
  have nl : ∀ {a us}, h.IsList a us → (∀ q : a ∈ ws, a ∈ X ∧ ln ≠ some a → False) → a ∉ ws := fun {a us} il hn m => by
    rcases hs a m with q | ⟨o, e, d⟩
    · exact hn m q
    · obtain ⟨o', e', _, n, d'⟩ := il
      rw [e] at e'; cases e'
      unfold isData at d; rw [d'] at d; cases d
  exact ⟨xa, kq, t, vs, is, a1.at fun o => hk _ o (nl a1 fun _ q => q.2 e), nx, a2.at fun o => hk _ o (nl a2 fun _ q => ny q.1), r⟩

noncomputable def Safe (base : Heap) (env : Env) (ln : Option Addr) (O X : List Addr) (h h' : Heap) (b : Addr) : Prop :=
  base.get? b = none ∧ ((b ∈ X ∧ b ∉ O ∧ ln ≠ some b ∧ (∃ o, h.get? b = some o ∧ isData o = true) ∧ ∃ o, h'.get? b = some o ∧ isData o = true) ∨ (b ≠ env.locals ∧ (∀ y, (y, b) ∉ env.cells) ∧ ∃ o, h.get? b = some o ∧ isData o = false))
theorem Inv.kw {base env ln O X σ h h'} {ws : List Addr} (I : Inv base env ln O X σ h) (k : KpW ln ws h h') (hs : ∀ b ∈ ws, Safe base env ln O X h h' b) : Inv base env ln O X σ h' := by
  have out : ∀ b o, b ∉ X → isData o = true → h.get? b = some o → b ∉ ws := fun b o hx d e m => by
    obtain ⟨_, q | ⟨_, _, o', e', d'⟩⟩ := hs b m
    · exact hx q.1
    · rw [e] at e'; cases e'; rw [d] at d'; cases d'
  have sq : Sq X h h' := fun a o ha d e => k.keep a o (out a o ha d e) (fun q => ha (I.li a q).1) e
  have hns : ∀ m, h.Ns env.locals m → h'.Ns env.locals m := fun m n => by
    obtain ⟨o, e, d⟩ := Heap.Ns.obj n
    refine n.at' fun o' e' => k.keep _ _ (fun m => ?_) (I.nd e d) e'
    obtain ⟨_, q | q⟩ := hs _ m
    · obtain ⟨o2, e2, d2⟩ := q.2.2.2.1
      rw [e] at e2; cases e2; rw [d] at d2; cases d2
    · exact q.1 rfl
  have hc : ∀ y cc w, (y, cc) ∈ env.cells → h.IsCell cc w → h'.IsCell cc w := fun y cc w hm n => by
    obtain ⟨o, e, d⟩ := Heap.IsCell.obj n
    obtain ⟨o', e', d'⟩ := n
    refine ⟨o', k.keep _ _ (fun m => ?_) (I.nd e d) e', d'⟩
    obtain ⟨_, q | q⟩ := hs _ m
    · obtain ⟨o2, e2, d2⟩ := q.2.2.2.1
      rw [e] at e2; cases e2; rw [d] at d2; cases d2
    · exact q.2.1 y hm
  refine { fk := I.fk, gl := I.gl, ns := let ⟨m, n⟩ := I.ns; ⟨m, hns m n⟩, rd := fun y t g => ?_, cs := fun y q m => let ⟨w, z⟩ := I.cs y q m; ⟨w, hc y _ _ m z⟩, ap := I.ap, ox := I.ox, ob := I.ob, xs := fun b m => ?_, bs := fun b o e => k.keep b o (fun m => ?_) (fun q => by rw [(I.li b q).2.2] at e; cases e) (I.bs b o e), li := fun l e => let ⟨a, b, d⟩ := I.li l e; ⟨a, k.line l X e b, d⟩ }
  · obtain ⟨v, q, lr⟩ := I.rd y t g
    refine ⟨v, ?_, ?_⟩
    · rcases q with ⟨kk, m, n, e⟩ | ⟨kk, cc, lk, n⟩
      · exact .inl ⟨kk, m, hns _ n, e⟩
      · exact .inr ⟨kk, cc, lk, hc y _ _ (mem_of_lookup lk) n⟩
    · cases t with
      | val t => exact RVs.keep sq lr
      | own pl ts =>
        obtain ⟨a, us, e, ho, hl, l, p, r⟩ := lr
        have na : a ∉ ws := fun m => by
          obtain ⟨_, q | q⟩ := hs a m
          · exact q.2.1 ho
          · obtain ⟨o, e1, d⟩ := q.2.2
            obtain ⟨o', e', _, n, d'⟩ := l
            rw [e1] at e'; cases e'
            unfold isData at d; rw [d'] at d; cases d
        exact ⟨a, us, e, ho, hl, l.at fun o => k.keep _ o na hl, fun z => (p z).at fun o => k.keep _ o na hl, r.keep sq⟩
  · by_cases q : b ∈ ws
    · obtain ⟨_, z | z⟩ := hs b q
      · exact z.2.2.2.2
      · obtain ⟨o, e, d⟩ := I.xs b m
        obtain ⟨o', e', d'⟩ := z.2.2
        rw [e] at e'; cases e'; rw [d] at d'; cases d'
    · obtain ⟨o, e, d⟩ := I.xs b m
      by_cases q2 : ln = some b
      · exact (k.line b X q2 (I.li b q2).2.1).obj
      · exact ⟨o, k.keep b o q q2 e, d⟩
  · have := (hs b m).1
    rw [this] at e; cases e

-- the closure and the cells of a comprehension's frame
noncomputable def clOf (env : Env) : List (Str × NameKind) → List (Str × Addr) → List (Str × Addr)
  | [], acc => acc
  | (n, k) :: r, acc => if k == .free then clOf env r ((n, (env.cells.lookup n).getD 0) :: acc) else clOf env r acc
theorem clos_go {env : Env} (f : Str × NameKind → List (Str × Addr) → Sem (ForInStep (List (Str × Addr)))) (hf : ∀ n k cs, f (n, k) cs = if k == .free then (do let a ← cellOf env n; pure (.yield ((n, a) :: cs))) else pure (.yield cs)) :
    ∀ (names : List (Str × NameKind)) (acc : List (Str × Addr)), (∀ x ∈ names, x.2 = .free → (env.cells.lookup x.1).isSome = true) → forIn names acc f = pure (clOf env names acc)
  | [], acc, _ => by rw [List.forIn_nil]; rfl
  | (n, k) :: r, acc, h => by
    rw [List.forIn_cons, hf]
    unfold clOf
    have hr := fun acc' => clos_go f hf r acc' fun x m => h x (.tail _ m)
    cases hk : (k == NameKind.free) with
    | false =>
      simp only [Bool.false_eq_true, if_false, pure_bind]
      exact hr acc
    | true =>
      obtain ⟨c, hc⟩ := Option.isSome_iff_exists.mp (h (n, k) (.head _) (beq_iff_eq.mp hk))
      simp only at hc
      have : cellOf env n = pure c := by unfold cellOf; rw [hc]
      simp only [if_true, this, pure_bind]
      rw [hc]
      exact hr _
theorem closure_eq {scope : Scope} {env : Env} (h : ∀ x ∈ scope.names, x.2 = .free → (env.cells.lookup x.1).isSome = true) : closureFor scope env = pure (clOf env scope.names []) := by
  unfold closureFor
  show (forIn scope.names ([] : List (Str × Addr)) _ >>= fun cs => pure cs) = _
  rw [clos_go (env := env) _ (fun _ _ _ => rfl) _ _ h]
  rfl
theorem clOf_mem {env : Env} : ∀ (names : List (Str × NameKind)) (acc : List (Str × Addr)) {n c}, (∀ x ∈ names, x.2 = .free → (env.cells.lookup x.1).isSome = true) → (n, c) ∈ clOf env names acc → (n, c) ∈ acc ∨ ((n, NameKind.free) ∈ names ∧ env.cells.lookup n = some c)
  | [], acc, n, c, _, h => .inl h
  | (m, k) :: r, acc, n, c, hs, h => by
    unfold clOf at h
    split at h
    · rename_i hk
      have hk := beq_iff_eq.mp hk
      subst hk
      rcases clOf_mem r _ (fun x m => hs x (.tail _ m)) h with h | h
      · rcases List.mem_cons.mp h with e | h
        · cases e
          obtain ⟨c, hc⟩ := Option.isSome_iff_exists.mp (hs (m, .free) (.head _) rfl)
          simp only at hc
          exact .inr ⟨.head _, by rw [hc]; rfl⟩
        · exact .inl h
      · exact .inr ⟨.tail _ h.1, h.2⟩
    · rcases clOf_mem r _ (fun x m => hs x (.tail _ m)) h with h | h
      · exact .inl h
      · exact .inr ⟨.tail _ h.1, h.2⟩
theorem clOf_acc {env : Env} : ∀ (names : List (Str × NameKind)) (acc : List (Str × Addr)) {x}, x ∈ acc → x ∈ clOf env names acc
  | [], acc, x, h => h
  | (m, k) :: r, acc, x, h => by
    unfold clOf
    split
    · exact clOf_acc r _ (.tail _ h)
    · exact clOf_acc r _ h
theorem clOf_has {env : Env} : ∀ (names : List (Str × NameKind)) (acc : List (Str × Addr)) {n c}, (n, NameKind.free) ∈ names → env.cells.lookup n = some c → (n, c) ∈ clOf env names acc
  | (m, k) :: r, acc, n, c, h, e => by
    unfold clOf
    rcases List.mem_cons.mp h with q | h
    · cases q
      rw [if_pos (by decide)]
      exact clOf_acc r _ (by rw [e]; exact .head _)
    · split
      · exact clOf_has r _ h e
      · exact clOf_has r _ h e
theorem clOf_apart {env : Env} (ap : env.cells.Pairwise fun x y => x.2 ≠ y.2) : ∀ (names : List (Str × NameKind)) (acc : List (Str × Addr)), (∀ x ∈ names, x.2 = .free → (env.cells.lookup x.1).isSome = true) → (names.map (·.1)).Nodup →
    (∀ n c, (n, c) ∈ acc → env.cells.lookup n = some c ∧ n ∉ names.map (·.1)) → acc.Pairwise (fun x y => x.2 ≠ y.2) → (clOf env names acc).Pairwise fun x y => x.2 ≠ y.2
  | [], acc, _, _, _, h => h
  | (m, k) :: r, acc, hs, nd, ha, h => by
    unfold clOf
    simp only [List.map_cons, List.nodup_cons] at nd
    have ha' : ∀ n c, (n, c) ∈ acc → env.cells.lookup n = some c ∧ n ∉ r.map (·.1) := fun n c q => ⟨(ha n c q).1, fun z => (ha n c q).2 (.tail _ z)⟩
    split
    · rename_i hk
      have hk := beq_iff_eq.mp hk
      subst hk
      obtain ⟨c, hc⟩ := Option.isSome_iff_exists.mp (hs (m, .free) (.head _) rfl)
      simp only at hc
      refine clOf_apart ap r _ (fun x m => hs x (.tail _ m)) nd.2 (fun n c' q => ?_) (List.pairwise_cons.mpr ⟨fun y hy e => ?_, h⟩)
      · rcases List.mem_cons.mp q with q | q
        · cases q; exact ⟨by rw [hc]; rfl, nd.1⟩
        · exact ha' n c' q
      · obtain ⟨n, c'⟩ := y
        simp only [hc, Option.getD_some] at e
        subst e
        have := lookup_uni ap hc (ha n c hy).1
        subst this
        exact (ha m c hy).2 (.head _)
    · exact clOf_apart ap r _ (fun x m => hs x (.tail _ m)) nd.2 ha' h
theorem cellsFrom_app : ∀ (names : List (Str × NameKind)) (n : Nat) (acc acc' : List (Str × Addr)), cellsFrom n names (acc ++ acc') = cellsFrom n names acc ++ acc'
  | [], n, acc, acc' => rfl
  | (m, k) :: r, n, acc, acc' => by
    unfold cellsFrom
    split
    · exact cellsFrom_app r (n + 1) ((m, n) :: acc) acc'
    · exact cellsFrom_app r n acc acc'
theorem cellsFrom_mem : ∀ (names : List (Str × NameKind)) (n : Nat) (acc : List (Str × Addr)) {x c}, (x, c) ∈ cellsFrom n names acc → (x, c) ∈ acc ∨ (x, NameKind.cell) ∈ names
  | [], n, acc, x, c, h => .inl h
  | (m, k) :: r, n, acc, x, c, h => by
    unfold cellsFrom at h
    split at h
    · rename_i hk
      have hk := beq_iff_eq.mp hk
      subst hk
      rcases cellsFrom_mem r _ _ h with h | h
      · rcases List.mem_cons.mp h with e | h
        · cases e; exact .inr (.head _)
        · exact .inl h
      · exact .inr (.tail _ h)
    · rcases cellsFrom_mem r _ _ h with h | h
      · exact .inl h
      · exact .inr (.tail _ h)
theorem lookup_of_mem : ∀ {l : List (Str × Addr)} {x : Str} {c : Addr}, (x, c) ∈ l → (∀ c', (x, c') ∈ l → c' = c) → l.lookup x = some c
  | (y, d) :: r, x, c, h, u => by
    rw [List.lookup_cons]
    cases hb : x == y with
    | true =>
      have := beq_iff_eq.mp hb
      subst this
      rw [u d (.head _)]
    | false =>
      rcases List.mem_cons.mp h with e | h
      · cases e; simp at hb
      · exact lookup_of_mem h fun c' m => u c' (.tail _ m)

/-- the frame of a comprehension -/
noncomputable def cenv (scope : Scope) (C : Addr) (env : Env) : Env := compEnvC scope (cellsFrom (C + 1) scope.names [] ++ clOf env scope.names []) C env
/-- its own places -/
noncomputable def cws (scope : Scope) (C : Addr) : List Addr := C :: (cellsFrom (C + 1) scope.names []).map (·.2)

theorem newCompEnv {M : Model} {A : Around} {E : Value → Shared → Prop} {s : Shared} {scope : Scope} {env : Env} {cl : List (Str × Addr)} {Q : Env → Shared → Prop}
    (h : Q { scope := scope, locals := s.heap.objs.size, globals := env.globals, cells := cellsFrom (s.heap.objs.size + 1) scope.names cl, qual := env.qual, func := none, code := env.code, frame := env.frame, builtins := env.builtins } { s with heap := pushCells (s.heap.push { cls := .type "dict", data := .dict #[] }) scope.names }) :
    wpAny M A (newFunctionEnv scope env.globals cl [] env.qual none .none (some env)) Q E s := by
  simp only [newFunctionEnv, Option.isSome_some, if_true]
  refine wpAny_bind (wpAny_alloc ?_)
  refine wpAny_bind (wpAny_layCells _ (fun name kind cells => by cases kind == NameKind.cell <;> simp) _ _ _ _ ?_)
  rw [List.forIn_nil]
  refine wpAny_bind (wpAny_pure (wpAny_pure ?_))
  rw [show ({ s with heap := s.heap.push { cls := .type "dict", data := .dict #[] } } : Shared).heap.objs.size = s.heap.objs.size + 1 from Heap.size_push ..]
  exact h
end Mine
end B9_part
section B10_part
open PySem PySem.Calls PyProof.Rows PySem.W
namespace Mine

noncomputable def Sg.free (scope : Scope) : Sg → Sg
  | [] => []
  | (y, t) :: r => if scope.names.lookup y == some .free then (y, t) :: Sg.free scope r else Sg.free scope r
theorem Sg.free_get {scope : Scope} : ∀ {σ : Sg} {x t}, (Sg.free scope σ).get x = some t → σ.get x = some t ∧ scope.names.lookup x = some .free
  | [], x, t, h => nomatch h
  | (y, u) :: r, x, t, h => by
    unfold Sg.free at h
    split at h
    · rename_i hy
      unfold Sg.get at h ⊢
      split at h
      · rename_i q; subst q; rw [if_pos rfl]; exact ⟨h, by simpa using hy⟩
      · rename_i q; rw [if_neg q]; exact Sg.free_get h
    · rename_i hy
      have := Sg.free_get h
      refine ⟨?_, this.2⟩
      unfold Sg.get
      rw [if_neg, this.1]
      rintro rfl
      rw [this.2] at hy
      exact hy (by decide)

structure CompOk (scope : Scope) (env : Env) (σ : Sg) : Prop where
  kind : scope.kind = .function
  nd : (scope.names.map (·.1)).Nodup
  fr : ∀ x ∈ scope.names, x.2 = .free → env.kindOf x.1 = some .cell ∨ env.kindOf x.1 = some .free
  al : ∀ x ∈ scope.names, x.2 = .free → ∃ t, σ.get x.1 = some t
theorem lookup_mem_nd : ∀ {l : List (Str × NameKind)} {x k}, (l.map (·.1)).Nodup → (x, k) ∈ l → l.lookup x = some k
  | (y, d) :: r, x, k, nd, h => by
    simp only [List.map_cons, List.nodup_cons] at nd
    rw [List.lookup_cons]
    rcases List.mem_cons.mp h with e | h2
    · cases e; simp
    · cases hb : x == y with
      | true =>
        have := beq_iff_eq.mp hb
        subst this
        exact absurd (List.mem_map_of_mem (f := (·.1)) h2) nd.1
      | false => exact lookup_mem_nd nd.2 h2
theorem CompOk.hnames {scope env σ} (ok : CompOk scope env σ) : ∀ x ∈ scope.names, x.2 = .local → scope.names.lookup x.1 = some .local := fun x m e => by
  obtain ⟨n, k⟩ := x
  cases e
  exact lookup_mem_nd ok.nd m
theorem CompOk.some {scope env σ base ln O X h} (ok : CompOk scope env σ) (I : Inv base env ln O X σ h) : ∀ x ∈ scope.names, x.2 = .free → (env.cells.lookup x.1).isSome = true := fun x m e => by
  obtain ⟨t, g⟩ := ok.al x m e
  obtain ⟨v, r, _⟩ := I.rd _ _ g
  rcases r with ⟨k, _⟩ | ⟨_, c, l, _⟩
  · rcases ok.fr x m e with q | q <;> (rw [k] at q; cases q)
  · rw [l]; rfl

theorem relabel_free {env : Env} (hf : env.scope.kind = .function) : ∀ {names : List (Str × NameKind)} {x : Str}, names.lookup x = some .free →
    (names.map fun (n, k) => if (k == NameKind.free && env.scope.kind == .function && env.kindOf n == some .cell) then (n, NameKind.cell) else (n, k)).lookup x = some (if env.kindOf x = some .cell then .cell else .free)
  | [], _, h => by simp at h
  | (n, k) :: r, x, h => by
    have ih := @relabel_free env hf r x
    show List.lookup x ((if (k == NameKind.free && env.scope.kind == .function && env.kindOf n == some .cell) = true then (n, NameKind.cell) else (n, k)) :: _) = _
    cases hx : x == n with
    | true =>
      simp only [List.lookup_cons, hx] at h
      cases h
      have := beq_iff_eq.mp hx
      subst this
      by_cases q : env.kindOf x = some .cell
      · rw [if_pos (by rw [q, hf]; decide), if_pos q]; simp
      · rw [if_neg (by simp [q]), if_neg q]; simp
    | false =>
      simp only [List.lookup_cons, hx] at h
      split <;> (simp only [List.lookup_cons, hx]; exact ih h)

/-- what stands in a comprehension's own places -/
structure Plc (h : Heap) (scope : Scope) (C : Addr) : Prop where
  ns : ∃ m, h.Ns C m
  cs : ∀ y c, (y, c) ∈ cellsFrom (C + 1) scope.names [] → ∃ v, h.IsCell c v
structure Apart (base : Heap) (env : Env) (scope : Scope) (C : Addr) : Prop where
  b : ∀ b ∈ cws scope C, base.get? b = none ∧ b ≠ env.locals ∧ ∀ y, (y, b) ∉ env.cells
  ap : (cellsFrom (C + 1) scope.names []).Pairwise fun x y => x.2 ≠ y.2
theorem Plc.nd {h scope C} (p : Plc h scope C) : ∀ b ∈ cws scope C, ∃ o, h.get? b = some o ∧ isData o = false := fun b m => by
  rcases List.mem_cons.mp m with rfl | m
  · obtain ⟨m, n⟩ := p.ns; exact Heap.Ns.obj n
  · obtain ⟨⟨y, c⟩, hm, rfl⟩ := List.mem_map.mp m
    obtain ⟨v, n⟩ := p.cs y c hm; exact Heap.IsCell.obj n

section
variable {base : Heap} {env : Env} {ln : Option Addr} {O X : List Addr} {σ : Sg} {h : Heap} {scope : Scope} {C : Addr}
theorem Inv.inner (I : Inv base env ln O X σ h) (ok : CompOk scope env σ) (p : Plc h scope C) (ap : Apart base env scope C) : Inv base (cenv scope C env) ln O X (Sg.free scope σ) h := by
  have hs := ok.some I
  have mem_own : ∀ {x c}, (x, c) ∈ cellsFrom (C + 1) scope.names [] → (x, NameKind.cell) ∈ scope.names := fun {x c} m => by
    rcases cellsFrom_mem _ _ _ m with m | m
    · cases m
    · exact m
  have mem_cl : ∀ {x c}, (x, c) ∈ clOf env scope.names [] → (x, NameKind.free) ∈ scope.names ∧ env.cells.lookup x = some c := fun {x c} m => by
    rcases clOf_mem _ _ hs m with m | m
    · cases m
    · exact m
  refine { fk := ok.kind, gl := I.gl, ns := p.ns, rd := fun x t g => ?_, cs := fun y c m => ?_, ap := ?_, ox := I.ox, ob := I.ob, xs := I.xs, bs := I.bs, li := I.li }
  · obtain ⟨g, hl⟩ := Sg.free_get g
    obtain ⟨v, r, lr⟩ := I.rd x t g
    refine ⟨v, ?_, lr⟩
    have hm := mem_of_lookup hl
    have hk := relabel_free (env := env) I.fk hl
    rcases r with ⟨k, _⟩ | ⟨_, c, l, n⟩
    · rcases ok.fr _ hm rfl with q | q <;> (simp only at q; rw [k] at q; cases q)
    · refine .inr ⟨?_, c, ?_, n⟩
      · show (relabel scope env).names.lookup x = _ ∨ (relabel scope env).names.lookup x = _
        by_cases q : env.kindOf x = some .cell
        · rw [if_pos q] at hk; exact .inl hk
        · rw [if_neg q] at hk; exact .inr hk
      · show (cellsFrom (C + 1) scope.names [] ++ clOf env scope.names []).lookup x = some c
        refine lookup_of_mem (List.mem_append_right _ (clOf_has _ _ hm l)) fun c' m => ?_
        rcases List.mem_append.mp m with m | m
        · have := lookup_mem_nd ok.nd (mem_own m)
          rw [hl] at this; cases this
        · have := (mem_cl m).2
          rw [l] at this; cases this; rfl
  · rcases List.mem_append.mp m with m | m
    · exact p.cs y c m
    · exact I.cs y c (mem_of_lookup (mem_cl m).2)
  · refine List.pairwise_append.mpr ⟨ap.ap, clOf_apart I.ap _ _ hs ok.nd (fun _ _ m => nomatch m) .nil, ?_⟩
    rintro ⟨x, c⟩ hx ⟨y, d⟩ hy e
    simp only at e
    subst e
    exact (ap.b c (.tail _ (List.mem_map_of_mem (f := (·.2)) hx))).2.2 y (mem_of_lookup (mem_cl hy).2)
theorem Lo.inner (L : Lo base env) (I : Inv base env ln O X σ h) (ok : CompOk scope env σ) (ap : Apart base env scope C) : Lo base (cenv scope C env) := by
  refine ⟨(ap.b C (.head _)).1, fun y c m => ?_⟩
  rcases List.mem_append.mp m with m | m
  · exact (ap.b c (.tail _ (List.mem_map_of_mem (f := (·.2)) m))).1
  · rcases clOf_mem _ _ (ok.some I) m with m | m
    · cases m
    · exact L.c y c (mem_of_lookup m.2)
end

/-- a target in a comprehension -/
noncomputable def TgC (c : Cx) (ws : List Addr) (σ : Sg) (target : Expr) (t : AV) (Q : Sg → Prop) : Prop :=
  ∀ (O X : List Addr) (E : Value → Shared → Prop) (s : Shared) (v : Value), Lo c.base c.env → Inv c.base c.env c.ln O X σ s.heap → Itm c.ln X s.heap v t →
    wpAny (model c.prog c.w) c.A (assign target c.env v) (fun _ s' => (∃ h' tk, s' = { s with heap := h', toks := tk }) ∧ (∀ b o, b ∉ ws → s.heap.get? b = some o → s'.heap.get? b = some o) ∧ ∃ σ', Inv c.base c.env c.ln O X σ' s'.heap ∧ Q σ') E s

section
variable {c : Cx} {σ : Sg} {ws : List Addr} {Q : Sg → Prop}
theorem TgC_name {x px t b} (sl : Slot c.env x b) (hb : b ∈ ws) (q : Q ((x, .val t) :: σ)) (ht : ∀ i ss, t ≠ .tup (.int i :: ss)) : TgC c ws σ (.Name x px) t Q := fun O X E s v L I r => by
  rcases r with r | ⟨T, us, ss, _, ⟨e, i, rr, e2⟩, _⟩
  · refine wpAny_assign_Name (store1 L I (t := .val t) r sl fun h' tk I' sb => ⟨⟨h', tk, rfl⟩, fun b' o n e => (sb.2 b' (fun q => n (q ▸ hb))).trans e, _, I', q⟩)
  · subst e2; exact absurd e (ht i rr)
theorem names_allC : ∀ (xs : List Str) (acts : List (Value → Sem Unit)) (ts : List LV) (σ : Sg) {O X E s vs} {R : Unit → Shared → Prop}, xs.length = ts.length → acts.length = ts.length → (∀ i (h1 : i < xs.length) (h2 : i < acts.length), NameAct c xs[i] acts[i] ∧ ∃ b, Slot c.env xs[i] b ∧ b ∈ ws) →
    Lo c.base c.env → Inv c.base c.env c.ln O X σ s.heap → LRels c.ln O X s.heap vs ts →
    (∀ h' tk, Inv c.base c.env c.ln O X (putAll (xs.zip ts) σ) h' → (∀ b o, b ∉ ws → s.heap.get? b = some o → h'.get? b = some o) → R () { s with heap := h', toks := tk }) → wpAny (model c.prog c.w) c.A (assignInOrder acts vs) R E s
  | [], [], [], σ, O, X, E, s, vs, R, _, _, _, L, I, r, q => by
    cases vs with
    | nil => exact wpAny_pure (q s.heap s.toks I fun _ _ _ e => e)
    | cons v vs => exact r.elim
  | x :: xs, a :: as, t :: ts, σ, O, X, E, s, vs, R, e1, e2, hn, L, I, r, q => by
    cases vs with
    | nil => exact r.elim
    | cons v vs =>
      obtain ⟨na, b, sl, hb⟩ := hn 0 (by simp) (by simp)
      refine wpAny_bind (wpAny_holding (na _ _ _ _ (store1 L I r.1 sl fun h' tk I' sb => ?_)))
      have hobj : ∃ o, s.heap.get? b = some o ∧ isData o = false := by
        rcases sl with ⟨_, rfl⟩ | ⟨_, l⟩
        · obtain ⟨m, n⟩ := I.ns; exact Heap.Ns.obj n
        · obtain ⟨m, n⟩ := I.cs x b (mem_of_lookup l); exact Heap.IsCell.obj n
      obtain ⟨o, e, d⟩ := hobj
      have D : Dt s.heap h' := .but sb e d
      refine names_allC xs as ts ((x, t) :: σ) (by simpa using e1) (by simpa using e2) (fun i h1 h2 => ?_) L I' (r.2.dt D) fun h'' tk' I'' k'' => q h'' tk' I'' fun b' o n e => k'' b' o n ((sb.2 b' (fun q => n (q ▸ hb))).trans e)
      have := hn (i + 1) (by simpa using h1) (by simpa using h2)
      simpa using this
  | [], _, _ :: _, _, _, _, _, _, _, _, e, _, _, _, _, _, _ => by simp at e
  | _ :: _, _, [], _, _, _, _, _, _, _, e, _, _, _, _, _, _ => by simp at e
  | _, [], _ :: _, _, _, _, _, _, _, _, _, e, _, _, _, _, _ => by simp at e
  | _, _ :: _, [], _, _, _, _, _, _, _, _, e, _, _, _, _, _ => by simp at e
theorem TgC_tup {elts k pos ss} {xs : List Str} (hh : c.A.handled = none) (hn : xs.length = ss.length) (hacts : (assignEach elts c.env).length = xs.length ∧ ∀ i (h1 : i < xs.length) (h2 : i < ((assignEach elts c.env).map (·.2)).length), NameAct c xs[i] ((assignEach elts c.env).map (·.2))[i] ∧ ∃ b, Slot c.env xs[i] b ∧ b ∈ ws)
    (q : Q (putAll (xs.zip (ss.map LV.val)) σ)) (hstar : (assignEach elts c.env).findIdx? (·.1) = none := by rfl) : TgC c ws σ (.Tuple elts k pos) (.tup ss) Q := fun O X E s v L I r => by
  have go : ∀ T us, s.heap.IsTuple T (List.toArray us) → RVs c.ln X s.heap us ss → wpAny (model c.prog c.w) c.A (assign (.Tuple elts k pos) c.env (.ref T)) (fun _ s' => (∃ h' tk, s' = { s with heap := h', toks := tk }) ∧ (∀ b o, b ∉ ws → s.heap.get? b = some o → s'.heap.get? b = some o) ∧ ∃ σ', Inv c.base c.env c.ln O X σ' s'.heap ∧ Q σ') E s := fun T us ht rr => by
    refine PySem.wpAny_assign_Tuple hh ht (by rw [hacts.1, hn, List.size_toArray, rr.len]) hstar fun h' x => ?_
    have up : ∀ b o, s.heap.get? b = some o → h'.get? b = some o := fun b o e => x b o (Nat.ne_of_lt (Heap.lt_size e)) e
    have k2 : Kp c.ln s { s with heap := h' } := .grow up
    have I2 := I.kp k2.kp
    refine names_allC xs _ (ss.map LV.val) σ (by simp [hn]) (by simp [hacts.1, hn]) hacts.2 L I2 (by simpa using LRels.of (rr.keep (I.sq k2.kp))) fun h'' tk I' kk => ⟨⟨h'', tk, rfl⟩, fun b o n e => kk b o n (up b o e), _, I', q⟩
  rcases r with r | ⟨T, us, ss', rfl, ⟨e, _⟩, ht, rr⟩
  · obtain ⟨T, us, n, rfl, hx, l, rr⟩ := r.tup_inv
    exact go T us ⟨_, l, rfl, n, rfl⟩ rr
  · cases e
    exact go T us ht rr
end

noncomputable def IfsW (c : Cx) (σ : Sg) : List Expr → (Bool → Prop) → Prop
  | [], P => P true
  | [e], P => TW c σ e P
  | _, _ => False

section
variable {prog : Program} {w : World} {A : Around} {E : Value → Shared → Prop} {R : Result → Shared → Prop} {s : Shared}
theorem comp_loop {elt target iter : Expr} {ifs : List Expr} {scope : Scope} {pos : Pos} {it acc : Value} {env : Env} (I : Nat → Shared → Prop)
    (turn : ∀ n s, I n s → wpAny (model prog w) A (pyNext it) (fun r s₁ => match r with
      | none => R (.ok .next) s₁
      | some v => wpAny (model prog w) A (letOwnedTupleGo target it v) (fun _ s₁' => wpAny (model prog w) A (assign target env v) (fun _ s₂ =>
          wpAny (model prog w) A (forIn ifs true fun c r => if r = true then do let ok ← isTrue c env (eval c env); pure (ForInStep.yield ok) else pure (ForInStep.yield r)) (fun ok s₃ =>
            if ok = true then wpAny (model prog w) A (eval elt env) (fun x s₄ =>
              wpAny (model prog w) A (call (.builtin "list.append") [acc, x]) (fun _ s₅ => ∃ m, m < n ∧ I m s₅) (notedBy (model prog w) A env fun e s' => R (.error e) s') s₄) (notedBy (model prog w) A env fun e s' => R (.error e) s') s₃
            else ∃ m, m < n ∧ I m s₃) (notedBy (model prog w) A env fun e s' => R (.error e) s') s₂) (notedBy (model prog w) A env fun e s' => R (.error e) s') s₁') (notedBy (model prog w) A env fun e s' => R (.error e) s') s₁) (notedBy (model prog w) A env fun e s' => R (.error e) s') s)
    (n : Nat) (h : I n s) : codeAny (model prog w) A (.compLoop (.ListComp elt [⟨target, iter, ifs, 0⟩] scope pos) 0 it acc env) R s := by
  refine codeAny_loop rfl I (fun n s hI => ?_) n h
  show wpAny _ A ((compTurn (.ListComp elt [⟨target, iter, ifs, 0⟩] scope pos) 0 it acc env).onRaise (fun x => do noteFrame x env; theTreesLotGoes x)) _ _ s
  refine wpAny_noted ?_
  rw [compTurn_list]
  refine wpAny_bind (wpAny_standAt (wpAny_bind (wpAny_mono (turn n s hI) (fun r s₁ h₁ => ?_) fun _ _ h' => h')))
  cases r with
  | none => exact wpAny_pure h₁
  | some v =>
    refine wpAny_bind (wpAny_mono h₁ (fun _ s₁' h₁' => ?_) fun _ _ h' => h')
    refine wpAny_bind (wpAny_mono h₁' (fun _ s₂ h₂ => wpAny_bind (wpAny_mono h₂ (fun ok s₃ h₃ => ?_) fun _ _ h' => h')) fun _ _ h' => h')
    cases ok with
    | false => exact wpAny_pure ⟨rfl, h₃⟩
    | true =>
      exact wpAny_bind (wpAny_bind (wpAny_mono h₃ (fun x s₄ h₄ => wpAny_bind (wpAny_mono h₄ (fun _ s₅ h₅ => wpAny_pure (wpAny_pure ⟨rfl, h₅⟩)) fun _ _ h' => h')) fun _ _ h' => h'))
theorem wpAny_ifs {c : Cx} {σ : Sg} {ifs : List Expr} {P : Bool → Prop} {O X E s} (h : IfsW c σ ifs P) (I : Inv c.base c.env c.ln O X σ s.heap) :
    wpAny (model c.prog c.w) c.A (forIn ifs true fun e r => if r = true then do let ok ← isTrue e c.env (eval e c.env); pure (ForInStep.yield ok) else pure (ForInStep.yield r)) (PstB c X s P) E s := by
  match ifs, h with
  | [], h => exact wpAny_tests_nil ⟨.refl, h⟩
  | [e], h => exact wpAny_tests_one (h O X E s I)
end
end Mine
end B10_part
section B11_part
open PySem PySem.Calls PyProof.Rows PySem.W
namespace Mine

/-- one turn of a comprehension -/
noncomputable def CompT (c : Cx) (σ : Sg) (scope : Scope) (elt target : Expr) (ifs : List Expr) (ts : List AV) (R : List AV → Prop) : Prop :=
  ∃ J : Nat → List AV → Prop, J 0 [] ∧ (∀ C i t acc, Lo c.base (cenv scope C c.env) → ts[i]? = some t → J i acc →
    TgC { c with env := cenv scope C c.env } (cws scope C) (Sg.free scope σ) target t fun σ'' => IfsW { c with env := cenv scope C c.env } σ'' ifs fun b => if b then EW { c with env := cenv scope C c.env } σ'' elt fun u => J (i + 1) (acc ++ [u]) else J (i + 1) acc) ∧
  ∀ acc, J ts.length acc → R acc

structure CompEnd (c : Cx) (O X : List Addr) (σ : Sg) (s : Shared) (R : List AV → Prop) (D C : Addr) (h' : Heap) (acc : List AV) (us : List Value) : Prop where
  dn : s.heap.get? D = none
  dx : D ∉ X
  inv : Inv c.base c.env c.ln O (D :: X) σ h'
  kp : KpH c.ln s.heap h'
  ns : ∃ m, h'.Ns C m
  cn : s.heap.get? C = none
  cl : C ≠ c.env.locals
  cc : ∀ y, (y, C) ∉ c.env.cells
  cb : c.base.get? C = none
  pl : h'.PlainList D (List.toArray us)
  rs : RVs c.ln (D :: X) h' us acc
  ok : R acc

section
variable {c : Cx} {σ : Sg}

theorem comp_core {elt target iter : Expr} {ifs : List Expr} {scope : Scope} {pos : Pos} {R : List AV → Prop} {O X : List Addr} {E : Value → Shared → Prop} {s : Shared} (L : Lo c.base c.env) (I : Inv c.base c.env c.ln O X σ s.heap) (ok : CompOk scope c.env σ)
    (h : ItW c σ target iter fun ts => ts.length ≤ 5000 ∧ CompT c σ scope elt target ifs ts R) (RR : Value → Addr → Result → Shared → Prop)
    (hRR : ∀ D C h' tk acc us, CompEnd c O X σ s R D C h' acc us → RR (.ref D) C (.ok .next) { s with heap := h', toks := tk }) :
    wpAny (model c.prog c.w) c.A (eval iter c.env) (fun x s₁ => wpAny (model c.prog c.w) c.A (pyIter x) (fun it s₂ => wpAny (model c.prog c.w) c.A (newList []) (fun acc s₃ =>
      wpAny (model c.prog c.w) c.A (newFunctionEnv scope c.env.globals (clOf c.env scope.names []) [] c.env.qual none .none (some c.env)) (fun cenv s₄ =>
        codeAny (model c.prog c.w) c.A (.compStart (.ListComp elt [⟨target, iter, ifs, 0⟩] scope pos) 0 it acc { cenv with scope := relabel scope c.env }) (RR acc cenv.locals) s₄) E s₃) E s₂) E s₁) E s := by
  refine wpAny_mono (h O X E s I) (fun xv s1 h1 => wpAny_mono h1 (fun it s2 h2 => ?_) fun _ _ x => x) fun _ _ x => x
  obtain ⟨Ia, fp, wr, P, Md, St, ts, rfl, K, hlen, J, h0, turn, fin⟩ := h2
  have hw := K.wr I
  refine wpAny_newObj_type (newCompEnv ?_)
  generalize hH1 : s2.heap.push { cls := .type "list", dict := none, data := .seq ([] : List Value).toArray } = H1
  generalize hD : s2.heap.objs.size = D
  have hC : H1.objs.size = D + 1 := by rw [← hH1, Heap.size_push, hD]
  dsimp only
  rw [hC]
  generalize hH2 : H1.push { cls := .type "dict", data := .dict #[] } = H2
  have hC2 : H2.objs.size = D + 1 + 1 := by rw [← hH2, Heap.size_push, hC]
  generalize hCC : D + 1 = C at *
  have hcf : cellsFrom (C + 1) scope.names (clOf c.env scope.names []) = cellsFrom (C + 1) scope.names [] ++ clOf c.env scope.names [] := by
    have := cellsFrom_app scope.names (C + 1) [] (clOf c.env scope.names [])
    simpa using this
  rw [hcf]
  -- the new places
  have up01 : ∀ b o, s2.heap.get? b = some o → H1.get? b = some o := fun b o e => hH1 ▸ Heap.get?_push_of_some _ e
  have up12 : ∀ b o, H1.get? b = some o → H2.get? b = some o := fun b o e => hH2 ▸ Heap.get?_push_of_some _ e
  have up2 : ∀ b o, H2.get? b = some o → (pushCells H2 scope.names).get? b = some o := pushCells_keeps _ _
  have up : ∀ b o, s2.heap.get? b = some o → (pushCells H2 scope.names).get? b = some o := fun b o e => up2 _ _ (up12 _ _ (up01 _ _ e))
  have co := cellsFrom_ok scope.names H2 (C + 1) [] ⟨fun _ _ hm => (nomatch hm), List.Pairwise.nil⟩ (by rw [hC2]; exact Nat.le_refl _)
  rw [hC2] at co
  have hlt2 : ∀ b o, s2.heap.get? b = some o → b < D := fun b o e => hD ▸ Heap.lt_size e
  have wsge : ∀ b ∈ cws scope C, C ≤ b := fun b m => by
    rcases List.mem_cons.mp m with rfl | m
    · exact Nat.le_refl _
    · obtain ⟨⟨y, d⟩, hm, rfl⟩ := List.mem_map.mp m
      exact Nat.le_of_succ_le (co.empty y d hm).2
  have wsne : ∀ b ∈ cws scope C, ∀ o, s2.heap.get? b ≠ some o := fun b m o e => by
    have h1 := hlt2 b o e
    have h2 := wsge b m
    rw [← hCC] at h2
    exact absurd (Nat.lt_of_lt_of_le h1 (Nat.le_of_succ_le h2)) (Nat.lt_irrefl _)
  have dne : ∀ o, s2.heap.get? D ≠ some o := fun o e => Nat.lt_irrefl _ (hlt2 D o e)
  have dws : D ∉ cws scope C := fun m => by
    have := wsge D m
    rw [← hCC] at this
    exact Nat.not_succ_le_self _ this
  have old : ∀ {b}, (∃ o, s2.heap.get? b = some o) → b ≠ D ∧ b ∉ cws scope C := fun {b} ⟨o, e⟩ => ⟨fun q => dne o (q ▸ e), fun m => wsne b m o e⟩
  have ap : Apart c.base c.env scope C := by
    refine ⟨fun b m => ⟨?_, fun q => ?_, fun y q => ?_⟩, co.apart⟩
    · cases e : c.base.get? b with
      | none => rfl
      | some o => exact absurd (K.inv.bs b o e) (wsne b m o)
    · obtain ⟨mm, n⟩ := K.inv.ns
      obtain ⟨o, e, _⟩ := Heap.Ns.obj n
      exact wsne b m o (q ▸ e)
    · obtain ⟨v, n⟩ := K.inv.cs y b q
      obtain ⟨o, e, _⟩ := Heap.IsCell.obj n
      exact wsne b m o e
  have hp0 : H2.Ns C fun x => none := by
    have := Heap.Ns.new H1 (.type "dict")
    rw [hC] at this
    rw [← hH2]; exact this
  have plc : Plc (pushCells H2 scope.names) scope C := ⟨⟨_, hp0.keeps up2⟩, fun y d m => ⟨_, (co.empty y d m).1⟩⟩
  have pD : (pushCells H2 scope.names).PlainList D #[] := ⟨_, up2 _ _ (up12 _ _ (by rw [← hH1, ← hD]; exact Heap.get?_push_size _ rfl))⟩
  have kp0 : KpH c.ln s2.heap (pushCells H2 scope.names) := .grow up
  have n2 : s2.heap.get? D = none := by rw [← hD]; exact get_size _
  have I0 : Inv c.base c.env c.ln O (D :: (wr ++ X)) σ (pushCells H2 scope.names) := K.inv.avoid kp0 n2 ⟨_, pD.choose_spec, rfl⟩
  have hfp : ∀ b ∈ fp, b ≠ D ∧ b ∉ cws scope C := fun b m => let ⟨_, _, o, e, _⟩ := K.fp b m; old ⟨o, e⟩
  have hDO : D ∉ O := fun m => by
    obtain ⟨o, e, _⟩ := K.inv.xs D (K.inv.ox D m)
    exact dne o e
  have hDl : c.ln ≠ some D := fun q => by
    obtain ⟨o, e, _⟩ := K.inv.xs D (K.inv.li D q).1
    exact dne o e
  have hDb : c.base.get? D = none := by
    cases e : c.base.get? D with
    | none => rfl
    | some o => exact absurd (K.inv.bs D o e) (dne o)
  -- the walk
  have loop : ∀ (s₃ : Shared), s₃ = { s2 with heap := pushCells H2 scope.names } → codeAny (model c.prog c.w) c.A (.compLoop (.ListComp elt [⟨target, iter, ifs, 0⟩] scope pos) 0 (.ref Ia) (.ref D) (cenv scope C c.env)) (RR (.ref D) C) s₃ := by
    rintro s₃ rfl
    refine comp_loop (fun k s' => ∃ i acc us, k = ts.length + 1 - i ∧ i ≤ ts.length ∧ acc.length ≤ i ∧ (∃ h' tk, s' = { s2 with heap := h', toks := tk }) ∧ KpW c.ln (wr ++ D :: cws scope C) s2.heap s'.heap ∧ Inv c.base c.env c.ln O (D :: (wr ++ X)) σ s'.heap ∧ Plc s'.heap scope C ∧ St i s'.heap ∧ s'.heap.PlainList D (List.toArray us) ∧ RVs c.ln (D :: (wr ++ X)) s'.heap us acc ∧ J i acc) ?_ (ts.length + 1)
      ⟨0, [], [], rfl, Nat.zero_le _, Nat.le_refl _, ⟨_, s2.toks, rfl⟩, .kp kp0 _, I0, plc, K.W.frame 0 _ _ K.st fun b _ o e => up b o e, pD, .nil, h0⟩
    rintro k s' ⟨i, acc, us, rfl, hi, hal, hs', kk, I', pl', hst, pd, rs, hJ⟩
    have wrX : ∀ b ∈ wr, b ∈ D :: (wr ++ X) := fun b m => .tail _ (List.mem_append_left _ m)
    have wrD : ∀ b ∈ wr, b ≠ D ∧ b ∉ cws scope C := fun b m => hfp b (K.W.sub b m)
    -- a step of the walk itself
    have stepW : ∀ h2 : Heap, (∀ b o, b ∉ wr → s'.heap.get? b = some o → h2.get? b = some o) → (∀ b ∈ wr, ∃ o, h2.get? b = some o ∧ isData o = true) →
        KpW c.ln wr s'.heap h2 ∧ Inv c.base c.env c.ln O (D :: (wr ++ X)) σ h2 ∧ Plc h2 scope C ∧ h2.PlainList D (List.toArray us) ∧ RVs c.ln (D :: (wr ++ X)) h2 us acc := fun h2 hk ex => by
      refine ⟨.step I' hk fun b m => .inl ⟨wrX b m, (hw b m).2.2.1⟩, I'.step hk (fun b m => ⟨wrX b m, (hw b m).2⟩) (fun b m => K.ex i _ hst b m) ex, ?_, ?_, ?_⟩
      · obtain ⟨m, n⟩ := pl'.ns
        refine ⟨⟨m, n.at' fun o => hk _ o fun q => (wrD _ q).2 (.head _)⟩, fun y d m => ?_⟩
        obtain ⟨v, o, e, d'⟩ := pl'.cs y d m
        exact ⟨v, o, hk _ _ (fun q => (wrD _ q).2 (.tail _ (List.mem_map_of_mem (f := (·.2)) m))) e, d'⟩
      · exact pd.at fun o => hk _ o fun q => (wrD _ q).1 rfl
      · exact rs.keep fun a o ha _ e => hk a o (fun m => ha (wrX a m)) e
    have upK : ∀ {h1 h2 : Heap}, KpW c.ln wr h1 h2 → KpW c.ln (wr ++ D :: cws scope C) h1 h2 := fun k => k.up fun b m => List.mem_append_left _ m
    by_cases hlt : i < ts.length
    · refine K.W.item i _ _ _ hlt hst fun v h1 tk1 hMd hk1 => K.W.go i v _ _ _ hMd fun h2 hP hst2 hk2 => ?_
      have hk : ∀ b o, b ∉ wr → s'.heap.get? b = some o → h2.get? b = some o := fun b o n e => hk2 b o n (hk1 b o n e)
      obtain ⟨kw, I2, plc2, pd2, rs2⟩ := stepW h2 hk (K.ex (i + 1) _ hst2)
      obtain ⟨t, et, hit⟩ := K.itm i v h2 hlt hP
      have kk2 := kk.trans (upK kw)
      have sq2 : Sq (wr ++ X) s2.heap h2 := fun a o ha d e => kk2.keep a o (fun m => by
        rcases List.mem_append.mp m with m | m
        · exact ha (List.mem_append_left _ m)
        · rcases List.mem_cons.mp m with q | m
          · exact (old ⟨o, e⟩).1 q
          · exact (old ⟨o, e⟩).2 m) (fun q => ha (K.inv.li a q).1) e
      have hX : ∀ a ∈ D :: (wr ++ X), a ∈ wr ++ X ∨ s2.heap.get? a = none := fun a m => by
        rcases List.mem_cons.mp m with rfl | m
        · exact .inr n2
        · exact .inl m
      have hit2 : Itm c.ln (D :: (wr ++ X)) h2 v t := by
        rcases hit with r | ⟨T, uu, ss, e1, e2, ht, r⟩
        · exact .inl (RVs.mono sq2 hX r)
        · exact .inr ⟨T, uu, ss, e1, e2, ht, r.mono sq2 hX⟩
      obtain ⟨hA, tA, rfl⟩ := hs'
      have Lc : Lo c.base (cenv scope C c.env) := L.inner I2 ok ap
      have Ic : Inv c.base (cenv scope C c.env) c.ln O (D :: (wr ++ X)) (Sg.free scope σ) h2 := I2.inner ok plc2 ap
      refine wpAny_mono (turn C i t acc Lc et hJ O (D :: (wr ++ X)) _ ⟨h2, s2.gens, s2.drawn, tk1, s2.os⟩ v Lc Ic hit2) (fun _ s3 h3 => ?_) fun _ _ x => x
      obtain ⟨⟨h3', t3, rfl⟩, hk3, σ3, I3, h3⟩ := h3
      -- the outer frame after the stores
      have kw3 : KpW c.ln (cws scope C) h2 h3' := .step I2 hk3 fun b m => .inr (plc2.nd b m)
      have I3o : Inv c.base c.env c.ln O (D :: (wr ++ X)) σ h3' := I2.kw kw3 fun b m => ⟨(ap.b b m).1, .inr ⟨(ap.b b m).2.1, (ap.b b m).2.2, plc2.nd b m⟩⟩
      have pd3 : h3'.PlainList D (List.toArray us) := pd2.at fun o => hk3 _ o dws
      have sq3 : Sq (D :: (wr ++ X)) h2 h3' := fun a o ha d e => hk3 a o (fun m => by
        obtain ⟨o', e', d'⟩ := plc2.nd a m
        rw [e] at e'; cases e'; rw [d] at d'; cases d') e
      have rs3 := rs2.keep sq3
      have st3 : St (i + 1) h3' := K.W.frame (i + 1) h2 h3' hst2 fun b m o e => hk3 b o (hfp b m).2 e
      have kk3 : KpW c.ln (wr ++ D :: cws scope C) s2.heap h3' := kk2.trans (kw3.up fun b m => List.mem_append_right _ (.tail _ m))
      refine wpAny_mono (wpAny_ifs h3 I3) (fun b s4 h4 => ?_) fun _ _ x => x
      obtain ⟨k4, h4⟩ := h4
      obtain ⟨h4', t4, rfl, k4⟩ := k4
      have I4 := I3.kp k4
      have I4o := I3o.kp k4
      have pd4 : h4'.PlainList D (List.toArray us) := pd3.at fun o => k4.keep _ o hDl
      have rs4 := rs3.keep (I3o.sq k4)
      have st4 : St (i + 1) h4' := K.W.frame (i + 1) h3' h4' st3 fun b m o e => k4.keep b o (K.fp b m).2.1 e
      have kk4 : KpW c.ln (wr ++ D :: cws scope C) s2.heap h4' := kk3.trans (.kp k4 _)
      cases b with
      | false =>
        simp only [Bool.false_eq_true, if_false] at h4 ⊢
        exact ⟨ts.length + 1 - (i + 1), by omega, i + 1, acc, us, rfl, hlt, by omega, ⟨h4', t4, rfl⟩, kk4, I4o, ⟨I4.ns, fun y d m => I4.cs y d (List.mem_append_left _ m)⟩, st4, pd4, rs4, h4⟩
      | true =>
        simp only [if_true] at h4 ⊢
        refine wpAny_mono (h4 O (D :: (wr ++ X)) _ _ I4) (fun x s5 h5 => ?_) fun _ _ x => x
        obtain ⟨k5, u, r5, h5⟩ := h5
        obtain ⟨h5', t5, rfl, k5⟩ := k5
        have I5 := I4.kp k5
        have I5o := I4o.kp k5
        have pd5 : h5'.PlainList D (List.toArray us) := pd4.at fun o => k5.keep _ o hDl
        have rs5 := rs4.keep (I4o.sq k5)
        have st5 : St (i + 1) h5' := K.W.frame (i + 1) h4' h5' st4 fun b m o e => k5.keep b o (K.fp b m).2.1 e
        have kk5 : KpW c.ln (wr ++ D :: cws scope C) s2.heap h5' := kk4.trans (.kp k5 _)
        refine wpAny_list_append_plain pd5 (fun h6 pd6 sb => ?_) (by rw [List.size_toArray, rs5.len, sizeLine_eq]; omega)
        have e1 : us.toArray.push x = (us ++ [x]).toArray := by simp
        rw [e1] at pd6
        have hk6 : ∀ b o, b ∉ [D] → h5'.get? b = some o → h6.get? b = some o := fun b o n e => (sb.2 b fun q => n (q ▸ .head _)).trans e
        have dD : ∃ o, h5'.get? D = some o ∧ isData o = true := ⟨_, pd5.choose_spec, rfl⟩
        have dD6 : ∃ o, h6.get? D = some o ∧ isData o = true := ⟨_, pd6.choose_spec, rfl⟩
        have kw6 : KpW c.ln [D] h5' h6 := .step I5o hk6 fun b m => by rw [List.mem_singleton.mp m]; exact .inl ⟨.head _, hDl⟩
        have sf : ∀ env' : Env, ∀ b ∈ [D], Safe c.base env' c.ln O (D :: (wr ++ X)) h5' h6 b := fun _ b m => by
          rw [List.mem_singleton.mp m]
          exact ⟨hDb, .inl ⟨.head _, hDO, hDl, dD, dD6⟩⟩
        have I6 := I5.kw kw6 (sf _)
        have I6o := I5o.kw kw6 (sf _)
        refine ⟨ts.length + 1 - (i + 1), by omega, i + 1, acc ++ [u], us ++ [x], rfl, hlt, by simp; omega, ⟨h6, t5, rfl⟩, kk5.trans (kw6.up fun b m => by rw [List.mem_singleton.mp m]; exact List.mem_append_right _ (.head _)), I6o, ⟨I6.ns, fun y d m => I6.cs y d (List.mem_append_left _ m)⟩,
          K.W.frame (i + 1) h5' h6 st5 fun b m o e => hk6 b o (fun q => (hfp b m).1 (List.mem_singleton.mp q)) e, pd6, ?_, h5⟩
        exact (rs5.app r5).keep fun a o ha _ e => hk6 a o (fun q => ha (by rw [List.mem_singleton.mp q]; exact .head _)) e
    · have hi2 : i = ts.length := by omega
      subst hi2
      refine K.W.done _ _ _ hst fun h1 tk1 hk1 => ?_
      have I1 := I'.dropW hk1 (fun b m => ⟨wrX b m, (hw b m).2⟩) (fun b m => K.ex _ _ hst b m)
      have xw : ∀ b ∈ X, b ∉ wr := fun b m q => by
        obtain ⟨o, e, _⟩ := I.xs b m
        rw [K.new b q] at e; cases e
      have sub : ∀ b ∈ D :: X, b ∈ (D :: (wr ++ X)).filter fun a => decide (a ∉ wr) := fun b m => by
        refine List.mem_filter.mpr ?_
        rcases List.mem_cons.mp m with rfl | m
        · exact ⟨.head _, by simpa using fun q => (wrD _ q).1 rfl⟩
        · exact ⟨.tail _ (List.mem_append_right _ m), by simpa using xw b m⟩
      have I1' : Inv c.base c.env c.ln O (D :: X) σ h1 := I1.drop sub (fun b m => .tail _ (I.ox b m)) fun l e => .tail _ (I.li l e).1
      have kw : KpW c.ln wr s'.heap h1 := .step I' hk1 fun b m => .inl ⟨wrX b m, (hw b m).2.2.1⟩
      have kkF := kk.trans (upK kw)
      have bN : ∀ {b}, s2.heap.get? b = none → s.heap.get? b = none := fun {b} z => by
        cases e : s.heap.get? b with
        | none => rfl
        | some o =>
          obtain ⟨o', e'⟩ := (KpS.of I K.kp.kp).live b o e
          rw [z] at e'; cases e'
      have wsN : ∀ b ∈ cws scope C, s.heap.get? b = none := fun b m => bN (by
        cases e : s2.heap.get? b with
        | none => rfl
        | some o => exact absurd e (wsne b m o))
      have rsF : RVs c.ln (D :: X) h1 us acc := (rs.keep (h' := h1) fun a o ha _ e => hk1 a o (fun m => ha (wrX a m)) e).weak fun b m => by
        rcases List.mem_cons.mp m with rfl | m
        · exact .head _
        · exact .tail _ (List.mem_append_right _ m)
      obtain ⟨hA, tA, rfl⟩ := hs'
      obtain ⟨hZ, tZ, eZ⟩ := K.kp.same
      have dX : D ∉ X := fun q => by
        obtain ⟨o, e, _⟩ := I.xs D q
        rw [bN n2] at e; cases e
      have fin' := hRR D C h1 tk1 acc us ⟨bN n2, dX, I1', ⟨fun b o ne e => ?_, fun l Y e x => kkF.line l Y e (K.kp.kp.line l Y e x)⟩, ?_, wsN C (.head _), ?_, fun y q => (ap.b C (.head _)).2.2 y q, (ap.b C (.head _)).1, pd.at fun o => hk1 _ o fun q => (wrD _ q).1 rfl, rsF, fin acc hJ⟩
      · rw [eZ]; exact fin'
      · refine kkF.keep b o (fun m => ?_) ne (K.kp.kp.keep b o ne e)
        rcases List.mem_append.mp m with m | m
        · rw [K.new b m] at e; cases e
        · rcases List.mem_cons.mp m with rfl | m
          · rw [bN n2] at e; cases e
          · rw [wsN b m] at e; cases e
      · obtain ⟨m, n⟩ := pl'.ns
        exact ⟨m, n.at' fun o => hk1 _ o fun q => (wrD _ q).2 (.head _)⟩
      · exact fun q => (ap.b C (.head _)).2.1 q
  exact codeAny_compStart_list (loop _ rfl) (K.self _ _ _ (K.W.frame 0 _ _ K.st fun b _ o e => up b o e) (loop _ rfl))
end
end Mine
end B11_part
section B12_part
open PySem PySem.Calls PyProof.Rows PySem.W
namespace Mine

noncomputable def nodupB : List Str → Bool
  | [] => true
  | x :: r => !(r.contains x) && nodupB r
theorem nodupB_ok : ∀ {l : List Str}, nodupB l = true → l.Nodup
  | [], _ => List.nodup_nil
  | x :: r, h => by
    simp only [nodupB, Bool.and_eq_true, Bool.not_eq_true', List.contains_eq_mem, decide_eq_false_iff_not] at h
    exact List.nodup_cons.mpr ⟨h.1, nodupB_ok h.2⟩
noncomputable def chkC (scope : Scope) (env : Env) (σ : Sg) : Bool :=
  nodupB (scope.names.map (·.1)) && scope.names.all fun x => x.2 != .free || ((env.kindOf x.1 == some .cell || env.kindOf x.1 == some .free) && (σ.get x.1).isSome)
theorem CompOk.of {scope env σ} (hk : scope.kind = .function) (h : chkC scope env σ = true) : CompOk scope env σ := by
  unfold chkC at h
  rw [Bool.and_eq_true, List.all_eq_true] at h
  refine ⟨hk, nodupB_ok h.1, fun x m e => ?_, fun x m e => ?_⟩
  · have := h.2 x m
    simp only [e, bne_self_eq_false, Bool.false_or, Bool.and_eq_true, Bool.or_eq_true, beq_iff_eq] at this
    exact this.1
  · have := h.2 x m
    simp only [e, bne_self_eq_false, Bool.false_or, Bool.and_eq_true] at this
    exact Option.isSome_iff_exists.mp this.2

section
variable {c : Cx} {σ : Sg}

theorem EWF_comp {elt target iter : Expr} {ifs : List Expr} {scope : Scope} {pos : Pos} {R : List AV → Prop} (L : Lo c.base c.env) (ok : CompOk scope c.env σ)
    (h : ItW c σ target iter fun ts => ts.length ≤ 5000 ∧ CompT c σ scope elt target ifs ts R) (hs : ∀ env x, foldedSetIterable iter env x = pure x := by intro _ _; rfl) :
    EWF c σ (.ListComp elt [⟨target, iter, ifs, 0⟩] scope pos) R := fun O X E s I => by
  rw [eval_ListComp]
  refine wpAny_comprehension_free (use := none) rfl (hs _) (closure_eq (ok.some I)) ok.kind ok.hnames (comp_core L I ok h _ fun D C h' tk acc us F => ?_)
  obtain ⟨m, n⟩ := F.ns
  refine ⟨m, n, fun h'' sb => ?_⟩
  obtain ⟨oC, eC, dC⟩ := Heap.Ns.obj n
  have Dd : Dt h' h'' := .but sb eC dC
  have up : ∀ b o, b ≠ C → h'.get? b = some o → h''.get? b = some o := fun b o n e => (sb.2 b n).trans e
  refine ⟨⟨h'', tk, rfl, ⟨fun b o ne e => up b o (fun q => by rw [q, F.cn] at e; cases e) (F.kp.keep b o ne e), fun l Y e x => (F.kp.line l Y e x).dt Dd⟩⟩, D, us, acc, rfl, F.dn, F.dx, ?_, F.rs.keep Dd.sq, F.ok⟩
  exact F.pl.at fun o e => Dd D o (by obtain ⟨k, z⟩ := F.pl; rw [z] at e; cases e; rfl) e

theorem EW_comp {elt target iter : Expr} {ifs : List Expr} {scope : Scope} {pos : Pos} {Q : AV → Prop} (L : Lo c.base c.env) (ok : CompOk scope c.env σ)
    (h : ItW c σ target iter fun ts => ts.length ≤ 5000 ∧ CompT c σ scope elt target ifs ts fun acc => Q (.list acc)) (hs : ∀ env x, foldedSetIterable iter env x = pure x := by intro _ _; rfl) :
    EW c σ (.ListComp elt [⟨target, iter, ifs, 0⟩] scope pos) Q := EWF.ew (EWF_comp L ok h hs) fun _ q => q

/-- a comprehension put straight into a local name of its own line -/
theorem SW_asgComp {elt target iter : Expr} {ifs : List Expr} {scope : Scope} {pos spos px : Pos} {x : Str} {Q : Out → Prop} (hl : c.env.kindOf x = some .local) (ok : CompOk scope c.env σ)
    (hsw : swapsWith (.ListComp elt [⟨target, iter, ifs, 0⟩] scope pos) (some (.Name x px)) spos.line c.env = pure true)
    (h : ItW c σ target iter fun ts => ts.length ≤ 5000 ∧ CompT c σ scope elt target ifs ts fun acc => Q (.next ((x, .own true acc) :: σ))) (hs : ∀ env x, foldedSetIterable iter env x = pure x := by intro _ _; rfl) :
    SW c σ (.Assign [.Name x px] (.ListComp elt [⟨target, iter, ifs, 0⟩] scope pos) spos) Q := fun O X E s L I => by
  rw [exec_Assign_Name_used _ _ _ _ hsw]
  refine wpAny_bind (wpAny_standAt (wpAny_bind ?_))
  show wpAny _ c.A (do let _ ← comprehension (.ListComp elt [⟨target, iter, ifs, 0⟩] scope pos) scope c.env _ (newList []) false (eval iter c.env) (some (assign (.Name x px) c.env))) _ _ s
  refine wpAny_bind (wpAny_mono (wpAny_comprehension_free (use := some (assign (.Name x px) c.env)) (Q := fun _ s' => SPost c O X s Q .next s') rfl (hs _) (closure_eq (ok.some I)) ok.kind ok.hnames
    (comp_core L I ok h _ fun D C h' tk acc us F => ?_)) (fun _ s' hq => wpAny_pure (wpAny_pure hq)) fun _ _ e => e)
  obtain ⟨m, n⟩ := F.ns
  obtain ⟨oC, eC, dC⟩ := Heap.Ns.obj n
  have hln : c.ln ≠ some D := fun q => by
    obtain ⟨o, e, _⟩ := (I.li D q).2.1.obj
    rw [F.dn] at e; cases e
  have Iown : Inv c.base c.env c.ln (D :: O) (D :: X) σ h' := I.own F.kp F.dn ⟨_, F.pl.choose_spec, rfl⟩
  show wpAny _ c.A (assign (.Name x px) c.env (.ref D)) _ _ _
  refine wpAny_assign_Name (store1 (s := { s with heap := h', toks := tk }) L Iown (t := .own true acc) ⟨D, us, rfl, .head _, hln, F.pl.isList, fun _ => F.pl, F.rs⟩ (.inl ⟨hl, rfl⟩) fun h2 tk2 I2 sb => ?_)
  refine ⟨m, n.sameBut sb F.cl, fun h3 sb3 => ?_⟩
  have n2 : h2.Ns C m := n.sameBut sb F.cl
  obtain ⟨oC2, eC2, dC2⟩ := Heap.Ns.obj n2
  have cX : C ∉ D :: X := fun q => by
    obtain ⟨o, e, d⟩ := I2.xs C q
    rw [eC2] at e; cases e; rw [dC2] at d; cases d
  have I3 : Inv c.base c.env c.ln (D :: O) (D :: X) ((x, .own true acc) :: σ) h3 := by
    refine I2.kw (ws := [C]) (.step I2 (fun b o nb e => (sb3.2 b fun q => nb (q ▸ .head _)).trans e) fun b q => ?_) fun b q => ?_
    · rw [List.mem_singleton.mp q]; exact .inr ⟨_, eC2, dC2⟩
    · rw [List.mem_singleton.mp q]; exact ⟨F.cb, .inr ⟨F.cl, F.cc, _, eC2, dC2⟩⟩
  have D2 : Dt h2 h3 := .but sb3 eC2 dC2
  have p : SPost c (D :: O) (D :: X) { s with heap := h', toks := tk } (fun _ => True) .next { s with heap := h2, toks := tk2 } := SPost.put (s := { s with heap := h', toks := tk }) (s' := { s with heap := h', toks := tk }) Iown .refl (.inl ⟨hl, rfl⟩) I2 sb trivial
  have k13 : KpS c.env c.ln O s.heap h2 := (KpS.of I F.kp).trans p.2.1 (Gr.own (X := X) F.dn).ho
  refine ⟨⟨h3, tk2, rfl⟩, ⟨fun b o nm nl e => ?_, fun b o e => ?_, fun l Y e y => (k13.line l Y e y).dt D2⟩, D :: O, D :: X, _, I3, .own F.dn, F.ok⟩
  · exact (sb3.2 b (fun q => by rw [q, F.cn] at e; cases e)).trans (k13.keep b o nm nl e)
  · obtain ⟨o', e'⟩ := k13.live b o e
    exact ⟨o', (sb3.2 b (fun q => by rw [q, F.cn] at e; cases e)).trans e'⟩
end
end Mine
end B12_part
section B13_part
open PySem PySem.Calls PyProof.Rows PySem.W
namespace Mine

theorem bindL_out {kd : Str → Option NameKind} : ∀ (bs : List (Str × Value)) (m : Str → Option Value) {x}, x ∉ bs.map (·.1) → bindL kd bs m x = m x
  | [], m, x, _ => rfl
  | (n, v) :: r, m, x, h => by
    simp only [List.map_cons, List.mem_cons, not_or] at h
    unfold bindL
    rw [bindL_out r _ h.2]
    split
    · show (if x = n then some v else m x) = m x
      rw [if_neg h.1]
    · rfl
theorem bindL_in {kd : Str → Option NameKind} : ∀ (bs : List (Str × Value)) (m : Str → Option Value) {x v}, (bs.map (·.1)).Nodup → (x, v) ∈ bs → kd x = some .local → bindL kd bs m x = some v
  | (n, u) :: r, m, x, v, nd, h, k => by
    simp only [List.map_cons, List.nodup_cons] at nd
    unfold bindL
    rcases List.mem_cons.mp h with e | h2
    · cases e
      rw [bindL_out r _ nd.1, if_pos k]
      simp
    · exact bindL_in r _ nd.2 h2 k
theorem bindC_out {kd : Str → Option NameKind} : ∀ (bs : List (Str × Value)) (m : Str → Option Value) {x}, x ∉ bs.map (·.1) → bindC kd bs m x = m x
  | [], m, x, _ => rfl
  | (n, v) :: r, m, x, h => by
    simp only [List.map_cons, List.mem_cons, not_or] at h
    unfold bindC
    rw [bindC_out r _ h.2]
    split
    · rfl
    · show (if x = n then some v else m x) = m x
      rw [if_neg h.1]
theorem bindC_in {kd : Str → Option NameKind} : ∀ (bs : List (Str × Value)) (m : Str → Option Value) {x v}, (bs.map (·.1)).Nodup → (x, v) ∈ bs → kd x ≠ some .local → bindC kd bs m x = some v
  | (n, u) :: r, m, x, v, nd, h, k => by
    simp only [List.map_cons, List.nodup_cons] at nd
    unfold bindC
    rcases List.mem_cons.mp h with e | h2
    · cases e
      rw [bindC_out r _ nd.1, if_neg k]
      simp
    · exact bindC_in r _ nd.2 h2 k
theorem lookup_of_nd {α : Type} : ∀ {l : List (Str × α)} {x k}, (l.map (·.1)).Nodup → (x, k) ∈ l → l.lookup x = some k
  | (y, d) :: r, x, k, nd, h => by
    simp only [List.map_cons, List.nodup_cons] at nd
    rw [List.lookup_cons]
    rcases List.mem_cons.mp h with e | h2
    · cases e; simp
    · cases hb : x == y with
      | true =>
        have := beq_iff_eq.mp hb
        subst this
        exact absurd (List.mem_map_of_mem (f := (·.1)) h2) nd.1
      | false => exact lookup_of_nd nd.2 h2
theorem cellsFrom_keys : ∀ (names : List (Str × NameKind)) (n : Nat) (acc : List (Str × Addr)), (names.map (·.1)).Nodup → (∀ x ∈ acc.map (·.1), x ∉ names.map (·.1)) → (acc.map (·.1)).Nodup → ((cellsFrom n names acc).map (·.1)).Nodup
  | [], n, acc, _, _, h => h
  | (m, k) :: r, n, acc, nd, ha, h => by
    simp only [List.map_cons, List.nodup_cons, List.mem_cons, not_or] at nd ha
    unfold cellsFrom
    split
    · refine cellsFrom_keys r (n + 1) ((m, n) :: acc) nd.2 (fun x hx => ?_) ?_
      · simp only [List.map_cons, List.mem_cons] at hx
        rcases hx with rfl | hx
        · exact nd.1
        · exact (ha x hx).2
      · simp only [List.map_cons, List.nodup_cons]
        exact ⟨fun q => (ha m q).1 rfl, h⟩
    · exact cellsFrom_keys r n acc nd.2 (fun x hx => (ha x hx).2) h
theorem cellsFrom_acc : ∀ (names : List (Str × NameKind)) (n : Nat) (acc : List (Str × Addr)) {x}, x ∈ acc → x ∈ cellsFrom n names acc
  | [], n, acc, x, h => h
  | (m, k) :: r, n, acc, x, h => by
    unfold cellsFrom
    split
    · exact cellsFrom_acc r _ _ (.tail _ h)
    · exact cellsFrom_acc r _ _ h
theorem cellsFrom_has : ∀ (names : List (Str × NameKind)) (n : Nat) (acc : List (Str × Addr)) {x}, (x, NameKind.cell) ∈ names → ∃ c, (x, c) ∈ cellsFrom n names acc
  | (m, k) :: r, n, acc, x, h => by
    unfold cellsFrom
    rcases List.mem_cons.mp h with e | h2
    · cases e
      rw [if_pos (by decide)]
      exact ⟨n, cellsFrom_acc r _ _ (.head _)⟩
    · split
      · exact cellsFrom_has r _ _ h2
      · exact cellsFrom_has r _ _ h2

/-- the frame's first bindings -/
noncomputable def sg0 (names : List Str) (ts : List AV) : Sg := names.zip (ts.map LV.val)
theorem sg0_get {ln X h} : ∀ {names : List Str} {ts : List AV} {vs : List Value} {x t}, RVs ln X h vs ts → (sg0 names ts).get x = some t → ∃ v u, t = .val u ∧ (x, v) ∈ names.zip vs ∧ RV ln X h v u
  | [], ts, vs, x, t, _, h => nomatch h
  | n :: ns, [], vs, x, t, _, h => nomatch h
  | n :: ns, u :: us, vs, x, t, r, h => by
    cases vs with
    | nil => cases r
    | cons v vs =>
      unfold sg0 at h
      simp only [List.map_cons, List.zip_cons_cons] at h
      unfold Sg.get at h
      split at h
      · rename_i q; subst q; cases h; exact ⟨v, u, rfl, .head _, r.head⟩
      · obtain ⟨v', u', e, m, r'⟩ := sg0_get (names := ns) r.tail h
        exact ⟨v', u', e, .tail _ m, r'⟩

noncomputable def chkP (scope : Scope) (names : List Str) : Bool := nodupB names && nodupB (scope.names.map (·.1)) && names.all fun x => scope.names.lookup x == some .local || scope.names.lookup x == some .cell

theorem zip_keys {names : List Str} {vs : List Value} (h : vs.length = names.length) : (names.zip vs).map (·.1) = names := by
  rw [List.map_fst_zip]; omega

theorem inv0 {name : Str} {scope : Scope} {a : Addr} {cd : Value} {base h h₁ : Heap} {ln : Option Addr} {X : List Addr} {names : List Str} {vs : List Value} {ts : List AV} (hk : scope.kind = .function) (hc : chkP scope names = true) (hlen : vs.length = names.length)
    (S : St0 base ln X h) (r : RVs ln X h vs ts)
    (F : Fr h h.objs.size h₁ (bindL (envOfC name scope h.objs.size a cd).kindOf (names.zip vs) fun _ => none)) (C : Cl h.objs.size (cellsFrom (h.objs.size + 1) scope.names []) h₁ (bindC (envOfC name scope h.objs.size a cd).kindOf (names.zip vs) fun _ => none)) :
    Inv base (envOfC name scope h.objs.size a cd) ln [] X (sg0 names ts) h₁ ∧ Lo base (envOfC name scope h.objs.size a cd) := by
  unfold chkP at hc
  rw [Bool.and_eq_true, Bool.and_eq_true, List.all_eq_true] at hc
  obtain ⟨⟨n1, n2⟩, n3⟩ := hc
  have n1 := nodupB_ok n1
  have n2 := nodupB_ok n2
  have bn : ∀ b, h.objs.size ≤ b → base.get? b = none := fun b hb => by
    cases e : base.get? b with
    | none => rfl
    | some o => exact absurd (Nat.lt_of_lt_of_le (Heap.lt_size (S.bs b o e)) hb) (Nat.lt_irrefl _)
  have keys := cellsFrom_keys scope.names (h.objs.size + 1) [] n2 (fun _ m => (nomatch m)) .nil
  refine ⟨{ fk := hk, gl := ⟨rfl, rfl⟩, ns := ⟨_, F.ns⟩, rd := fun x t g => ?_, cs := fun y c m => ⟨_, C.cell y c (lookup_of_nd keys m)⟩, ap := C.apart, ox := fun _ m => (nomatch m), ob := fun _ m => (nomatch m), xs := fun b m => let ⟨o, e, d⟩ := S.xs b m; ⟨o, F.keep b o e, d⟩, bs := fun b o e => F.keep b o (S.bs b o e), li := fun l e => let ⟨p, q, z⟩ := S.li l e; ⟨p, q.grow F.keep, z⟩ }, ⟨bn _ (Nat.le_refl _), fun y c m => bn c (Nat.le_of_lt (C.above y c m))⟩⟩
  obtain ⟨v, u, rfl, m, ru⟩ := sg0_get r g
  have ru' : RV ln X h₁ v u := ru.keep fun a o _ _ e => F.keep a o e
  have hx : x ∈ names := (List.of_mem_zip m).1
  have kk := n3 x hx
  have nd : ((names.zip vs).map (·.1)).Nodup := by rw [zip_keys hlen]; exact n1
  by_cases q : scope.names.lookup x = some .local
  · exact ⟨v, .inl ⟨q, _, F.ns, bindL_in _ _ nd m q⟩, ru'⟩
  · have q2 : scope.names.lookup x = some .cell := by simpa [q] using kk
    obtain ⟨c, hm⟩ := cellsFrom_has scope.names (h.objs.size + 1) [] (mem_of_lookup q2)
    have hl := lookup_of_nd keys hm
    have := C.cell x c hl
    rw [bindC_in _ _ nd m q] at this
    exact ⟨v, .inr ⟨.inl q2, c, hl, this⟩, ru'⟩

theorem callW_def {prog : Program} {w : World} {base : Heap} {ln : Option Addr} {name : Str} {params : Arguments} {body : List Stmt} {scope : Scope} {pm cd doc : Value} {a : Addr} {o : Obj} {k : Nat} {ts : List AV} {Q : AV → Prop} {names : List Str}
    (ho : base.get? a = some o) (hdata : o.data = .func (docDef name params body scope pm cd doc)) (hlim : base.NoLimit) (hcd : base.CodeRec cd name)
    (hbind : ∀ vs, vs.length = names.length → bindArgs (docDef name params body scope pm cd doc) ⟨vs, []⟩ = pure (names.zip vs)) (hn : ts.length = names.length) (hc : chkP scope names = true)
    (h : ∀ A L, Rm A k → Lo base (envOfC name scope L a cd) → SWs ⟨prog, w, base, A, envOfC name scope L a cd, ln⟩ (sg0 names ts) body fun o => match o with | .ret t => Q t | .next _ => Q .none)
    (hco : scope.isCoroutine = false := by rfl) (hgen : scope.isGenerator = false := by rfl) (hk : scope.kind = .function := by rfl) : CallW prog w base ln (k + 1) a ts Q := fun A X E s vs R S r => by
  have hlen : vs.length = names.length := r.len.trans hn
  have hc' := hc
  unfold chkP at hc'
  rw [Bool.and_eq_true, Bool.and_eq_true, List.all_eq_true] at hc'
  have n2 := nodupB_ok hc'.1.2
  have keys := cellsFrom_keys scope.names (s.heap.objs.size + 1) [] n2 (fun _ m => (nomatch m)) .nil
  refine wpAny_call (call_cells (pm := pm) (doc := doc) (binds := names.zip vs) ?_ (S.bs _ _ ho) hdata (hlim.keeps S.bs) (hcd.keeps S.bs) (hbind vs hlen) (fun x m => ?_) (fun h₁ tk F C => ?_) hco hgen hk)
  · have := R.dp
    show A.depth < 1000
    omega
  · have hx : x.1 ∈ names := (List.of_mem_zip (a := x.1) (b := x.2) m).1
    have kk := hc'.2 x.1 hx
    by_cases q : scope.names.lookup x.1 = some .local
    · exact .inl q
    · have q2 : scope.names.lookup x.1 = some .cell := by simpa [q] using kk
      obtain ⟨c, hm⟩ := cellsFrom_has scope.names (s.heap.objs.size + 1) [] (mem_of_lookup q2)
      exact .inr ⟨q2, by rw [lookup_of_nd keys hm]; rfl⟩
  · obtain ⟨I, L⟩ := inv0 (name := name) (a := a) (cd := cd) hk hc hlen S r F C
    have R' : Rm (A.deeper (envOfC name scope s.heap.objs.size a cd)) k := ⟨R.hd, by have := R.dp; show A.depth + 1 + k < 900; omega, by have := R.un; show A.units + 3 + 100 * k < 9000; omega⟩
    refine wpAny_mono (h _ _ R' L [] X _ ⟨h₁, s.gens, s.drawn, tk, s.os⟩ L I) (fun fl s' p => ?_) fun _ _ x => x
    obtain ⟨⟨h', tk', rfl⟩, kk, p⟩ := p
    have kp : KpH ln s.heap h' := by
      refine ⟨fun b o n e => kk.keep b o (fun m => ?_) n (F.keep b o e), fun l Y e x => kk.line l Y e (x.grow F.keep)⟩
      have hlt := Heap.lt_size e
      rcases m with rfl | ⟨y, m⟩ | m
      · exact Nat.lt_irrefl _ hlt
      · exact absurd (Nat.lt_trans hlt (C.above y b m)) (Nat.lt_irrefl _)
      · cases m
    refine ⟨⟨h', tk', rfl, kp⟩, ?_⟩
    cases fl with
    | next =>
      obtain ⟨_, _, _, _, _, q⟩ := p
      exact ⟨_, .nun .nil, q⟩
    | ret v =>
      obtain ⟨t, Xr, r, hx, q⟩ := p
      exact ⟨t, r.weak fun b m => (hx b m).elim id fun z => (nomatch z), q⟩
    | brk => exact p.elim
    | cont => exact p.elim
end Mine
end B13_part
section B14_part
open PySem PySem.Calls PyProof.Rows PySem.W
namespace Mine

section
variable {c : Cx} {σ : Sg}

theorem BiW_range3 {a b d : Int} {Q : AV → Prop} (hd : d ≠ 0) (hp : Builtin.divisionGoesByPylong (b - a) d = false) (q : Q (.rng a b d)) : BiW c σ (.type "range") [.int a, .int b, .int d] Q := fun O X E s vs I r => by
  cases r with
  | int r' => cases r' with
    | int r' => cases r' with
      | int r' => cases r'; exact call_range_3 hd ⟨.push _, _, .rng (fresh_notin I) (IsRange.new ..) .nil, q⟩ (.inl hp)

/-- the numbers from a to b -/
noncomputable def upL (a b : Nat) : List AV := (List.range' a (b - a)).map fun (i : Nat) => AV.int (i : Int)
theorem upL_len (a b : Nat) : (upL a b).length = b - a := by simp [upL]
theorem upL_get {a b i : Nat} {t : AV} (h : (upL a b)[i]? = some t) : i < b - a ∧ t = .int ((a + i : Nat) : Int) := by
  have hi := (List.getElem?_eq_some_iff.mp h).1
  rw [upL_len] at hi
  refine ⟨hi, ?_⟩
  simp only [upL, List.getElem?_map, List.getElem?_range' hi, Option.map_some] at h
  simp at h
  rw [← h]; simp
theorem It_up {target iter} {K : List AV → Prop} (hh : c.A.handled = none) (h : EW c σ iter fun t => ∃ a b : Nat, t = .rng a b 1 ∧ b < 2 ^ 60 ∧ a < 2 ^ 60 ∧ K (upL a b)) (hg : ∀ it v, letOwnedTupleGo target it v = pure () := by intro _ _; rfl) : ItW c σ target iter K := by
  refine It_rng hh (EW.mono h ?_) hg
  rintro t ⟨a, b, rfl, hb, ha, hK⟩
  have e : (Builtin.Range.rangeSize a b 1).toNat = b - a := by
    rw [rangeSize_one]; split <;> omega
  refine ⟨a, b, 1, rfl, small_one (by omega) (by omega) (by omega) (by omega), by rw [rangeSize_one]; split <;> omega, ?_⟩
  rw [e]
  have : rngL a 1 (b - a) = upL a b := by
    unfold rngL upL
    refine List.ext_getElem (by simp) fun i h1 h2 => ?_
    simp
  rw [this]; exact hK
/-- the numbers below n, downwards -/
noncomputable def dnL (n : Nat) : List AV := (List.range n).map fun (i : Nat) => AV.int ((n - 1 - i : Nat) : Int)
theorem dnL_len (n : Nat) : (dnL n).length = n := by simp [dnL]
theorem dnL_get {n i : Nat} {t : AV} (h : (dnL n)[i]? = some t) : i < n ∧ t = .int ((n - 1 - i : Nat) : Int) := by
  have hi := (List.getElem?_eq_some_iff.mp h).1
  rw [dnL_len] at hi
  refine ⟨hi, ?_⟩
  simp [dnL, hi] at h
  rw [← h]
theorem It_dn {target iter} {K : List AV → Prop} (hh : c.A.handled = none) (h : EW c σ iter fun t => ∃ n : Nat, t = .rng ((n : Int) - 1) (-1) (-1) ∧ n < 2 ^ 60 ∧ K (dnL n)) (hg : ∀ it v, letOwnedTupleGo target it v = pure () := by intro _ _; rfl) : ItW c σ target iter K := by
  refine It_rng hh (EW.mono h ?_) hg
  rintro t ⟨n, rfl, hb, hK⟩
  have e : Builtin.Range.rangeSize ((n : Int) - 1) (-1) (-1) = (n : Int) := by
    rw [rangeSize_down]; split <;> omega
  refine ⟨_, _, _, rfl, small_down (by omega) (by omega) (by omega) (by omega), by rw [e]; omega, ?_⟩
  rw [e]
  have : rngL ((n : Int) - 1) (-1) (n : Int).toNat = dnL n := by
    unfold rngL dnL
    refine List.ext_getElem (by simp) fun i h1 h2 => ?_
    simp at h1 h2 ⊢
    omega
  rw [this]; exact hK

/-- a store at a place of the frame's own list -/
theorem SW_asgSub {x px i pos value spos} {pl ts} {Q : Out → Prop} (hg : σ.get x = some (.own pl ts)) (one : ∀ y p u, σ.get y = some (.own p u) → y = x)
    (h : EW c σ value fun t => EW c σ i fun u => ∃ k, u = .int k ∧ 0 ≤ k ∧ k < ts.length ∧ ts.length ≤ 10000 ∧ Q (.next ((x, .own false (ts.set k.toNat t)) :: σ)))
    (hs : ∀ env, swapsWith value (some (.Subscript (.Name x px) i pos)) spos.line env = pure false := by intro _; rfl) (hd : (x == ("__debug__" : Str)) = false := by decide) (hc : (x == ("__classdict__" : Str)) = false := by decide) :
    SW c σ (.Assign [.Subscript (.Name x px) i pos] value spos) Q := fun O X E s L I => by
  rw [exec_Assign_Subscript _ _ _ _ _ (hs _)]
  refine wpAny_bind (wpAny_standAt (wpAny_bind (wpAny_mono (h O X E s I) (fun v s1 h1 => ?_) fun _ _ x => x)))
  obtain ⟨k1, t, r, h1⟩ := h1
  refine wpAny_bind (wpAny_mono (AW_subOwn (P := fun σ' => Q (.next σ')) hg one h1 hd hc (by intro _ _ _ _ _ h; exact wpAny_release' h) O X E s1 v L (I.kp k1.kp) r) (fun _ s2 h2 => wpAny_pure ?_) fun _ _ x => x)
  obtain ⟨hs2, kk, σ', I', q⟩ := h2
  exact SPost.upK I k1 ⟨hs2, kk, O, X, σ', I', .refl, q⟩

/-- from now on a list is only read -/
theorem SWs_freeze {x pl ts sts} {Q : Out → Prop} (hg : σ.get x = some (.own pl ts)) (one : ∀ y p u, σ.get y = some (.own p u) → y = x) (h : SWs c ((x, .val (.list ts)) :: σ) sts Q) (hq : ∀ σ', ¬ Q (.next σ')) : SWs c σ sts Q := fun O X E s L I => by
  obtain ⟨v, rd, a, us, rfl, ho, hl, l, p, r⟩ := I.rd x _ hg
  have sub : ∀ b ∈ X.filter (fun b => decide (b ≠ a)), b ∈ X := fun b m => (List.mem_filter.mp m).1
  have I' : Inv c.base c.env c.ln (O.filter fun b => decide (b ≠ a)) (X.filter fun b => decide (b ≠ a)) ((x, .val (.list ts)) :: σ) s.heap := by
    refine { fk := I.fk, gl := I.gl, ns := I.ns, rd := fun y t g => ?_, cs := I.cs, ap := I.ap, ox := fun b m => ?_, ob := fun b m => I.ob b (List.mem_filter.mp m).1, xs := fun b m => I.xs b (sub b m), bs := I.bs, li := fun q e => ?_ }
    · unfold Sg.get at g
      split at g
      · rename_i q; subst q; cases g
        exact ⟨_, rd, .list (by simp) l (r.weak sub) .nil⟩
      · rename_i ne
        obtain ⟨w, q, lr⟩ := I.rd y t g
        refine ⟨w, q, ?_⟩
        cases t with
        | val t => exact RVs.weak lr sub
        | own p u => exact absurd (one y p u g).symm ne
    · have := List.mem_filter.mp m
      exact List.mem_filter.mpr ⟨I.ox b this.1, this.2⟩
    · obtain ⟨q1, q2, q3⟩ := I.li q e
      exact ⟨List.mem_filter.mpr ⟨q1, by simpa using fun z => hl (by rw [e, z])⟩, q2.weak sub, q3⟩
  refine wpAny_mono (h _ _ E s L I') (fun fl s' p => ?_) fun _ _ x => x
  obtain ⟨hs, k, p⟩ := p
  refine ⟨hs, ⟨fun b o n ne e => k.keep b o (fun m => n ?_) ne e, k.live, k.line⟩, ?_⟩
  · rcases m with m | m | m
    · exact .inl m
    · exact .inr (.inl m)
    · exact .inr (.inr (List.mem_filter.mp m).1)
  · cases fl with
    | next => obtain ⟨_, _, σ', _, _, q⟩ := p; exact (hq σ' q).elim
    | ret v =>
      obtain ⟨t, Xr, rr, hx, q⟩ := p
      refine ⟨t, Xr, rr, fun b m => ?_, q⟩
      by_cases e : b = a
      · exact .inr (e ▸ ho)
      · exact (hx b (List.mem_filter.mpr ⟨m, by simpa using e⟩)).imp id fun z => (List.mem_filter.mp z).1
    | brk => exact p
    | cont => exact p

/-- a comprehension put into a local name of its own line, only read from then on -/
theorem SW_asgCompV {elt target iter : Expr} {ifs : List Expr} {scope : Scope} {pos spos px : Pos} {x : Str} {Q : Out → Prop} (hl : c.env.kindOf x = some .local) (ok : CompOk scope c.env σ)
    (hsw : swapsWith (.ListComp elt [⟨target, iter, ifs, 0⟩] scope pos) (some (.Name x px)) spos.line c.env = pure true)
    (h : ItW c σ target iter fun ts => ts.length ≤ 5000 ∧ CompT c σ scope elt target ifs ts fun acc => Q (.next ((x, .val (.list acc)) :: σ))) (hs : ∀ env x, foldedSetIterable iter env x = pure x := by intro _ _; rfl) :
    SW c σ (.Assign [.Name x px] (.ListComp elt [⟨target, iter, ifs, 0⟩] scope pos) spos) Q := fun O X E s L I => by
  rw [exec_Assign_Name_used _ _ _ _ hsw]
  refine wpAny_bind (wpAny_standAt (wpAny_bind ?_))
  show wpAny _ c.A (do let _ ← comprehension (.ListComp elt [⟨target, iter, ifs, 0⟩] scope pos) scope c.env _ (newList []) false (eval iter c.env) (some (assign (.Name x px) c.env))) _ _ s
  refine wpAny_bind (wpAny_mono (wpAny_comprehension_free (use := some (assign (.Name x px) c.env)) (Q := fun _ s' => SPost c O X s Q .next s') rfl (hs _) (closure_eq (ok.some I)) ok.kind ok.hnames
    (comp_core L I ok h _ fun D C h' tk acc us F => ?_)) (fun _ s' hq => wpAny_pure (wpAny_pure hq)) fun _ _ e => e)
  obtain ⟨m, n⟩ := F.ns
  obtain ⟨oC, eC, dC⟩ := Heap.Ns.obj n
  have I1 : Inv c.base c.env c.ln O X σ h' := F.inv.drop (fun b m => .tail _ m) I.ox fun l e => (I.li l e).1
  show wpAny _ c.A (assign (.Name x px) c.env (.ref D)) _ _ _
  refine wpAny_assign_Name (store1 (s := { s with heap := h', toks := tk }) L I1 (t := .val (.list acc)) (.list F.dx F.pl.isList (F.rs.weak fun _ m => .tail _ m) .nil) (.inl ⟨hl, rfl⟩) fun h2 tk2 I2 sb => ?_)
  refine ⟨m, n.sameBut sb F.cl, fun h3 sb3 => ?_⟩
  have n2 : h2.Ns C m := n.sameBut sb F.cl
  obtain ⟨oC2, eC2, dC2⟩ := Heap.Ns.obj n2
  have I3 : Inv c.base c.env c.ln O X ((x, .val (.list acc)) :: σ) h3 := by
    refine I2.kw (ws := [C]) (.step I2 (fun b o nb e => (sb3.2 b fun q => nb (q ▸ .head _)).trans e) fun b q => ?_) fun b q => ?_
    · rw [List.mem_singleton.mp q]; exact .inr ⟨_, eC2, dC2⟩
    · rw [List.mem_singleton.mp q]; exact ⟨F.cb, .inr ⟨F.cl, F.cc, _, eC2, dC2⟩⟩
  have D2 : Dt h2 h3 := .but sb3 eC2 dC2
  have p : SPost c O X { s with heap := h', toks := tk } (fun _ => True) .next { s with heap := h2, toks := tk2 } := SPost.put (s := { s with heap := h', toks := tk }) (s' := { s with heap := h', toks := tk }) I1 .refl (.inl ⟨hl, rfl⟩) I2 sb trivial
  have k13 : KpS c.env c.ln O s.heap h2 := (KpS.of I F.kp).trans p.2.1 fun _ m => .inl m
  refine ⟨⟨h3, tk2, rfl⟩, ⟨fun b o nm nl e => ?_, fun b o e => ?_, fun l Y e y => (k13.line l Y e y).dt D2⟩, O, X, _, I3, .refl, F.ok⟩
  · exact (sb3.2 b (fun q => by rw [q, F.cn] at e; cases e)).trans (k13.keep b o nm nl e)
  · obtain ⟨o', e'⟩ := k13.live b o e
    exact ⟨o', (sb3.2 b (fun q => by rw [q, F.cn] at e; cases e)).trans e'⟩

-- short forms
theorem EW_lenV {mg px y py pos ts} {P : AV → Prop} (G : Glb c.base mg) (hg : σ.get y = some (.val (.list ts))) (hl : ts.length < 2 ^ 60) (q : P (.int ts.length))
    (hk : c.env.kindOf ("len" : Str) = some .globalImplicit := by rfl) (hd : (y == ("__debug__" : Str)) = false := by decide) (hc : (y == ("__classdict__" : Str)) = false := by decide)
    (he : ∀ env, starEach [.Name y py] env = (false, eval (.Name y py) env) :: starEach [] env := by intro _; rfl)
    (hcc : ∀ env, eval (.Call (.Name "len" px) [.Name y py] [] pos) env = (do callWith pos (← eval (.Name "len" px) env) [] (backTo pos (starEach [.Name y py] env)) (backToKw pos (keywordEach [] env))) := by intro _; rfl) : EW c σ (.Call (.Name "len" px) [.Name y py] [] pos) P :=
  EW_bi G (.head _) (f := .builtin "len") (by decide +kernel) (.inl ⟨_, rfl⟩) (EsW_cons (EW_name hg (EsW_nil (BiW_len (by omega) q)) hd hc) he) hk (by decide) he (by intro _; rfl) hcc
theorem EW_it {x px slice pos ts} {P : AV → Prop} (hg : σ.get x = some (.val (.list ts))) (h : EW c σ slice fun t => ∃ i : Nat, t = .int i ∧ i < 2 ^ 60 ∧ ∃ u, ts[i]? = some u ∧ P u)
    (hs : ∀ a b, subscripted slice false a b = operate [a, b] (getItem a b) := by intro _ _; with_unfolding_all rfl) (hl : ∀ o r, letTemporaryGo (.Name x px) o r = pure () := by intro _ _; with_unfolding_all rfl)
    (hd : (x == ("__debug__" : Str)) = false := by decide) (hc : (x == ("__classdict__" : Str)) = false := by decide) : EW c σ (.Subscript (.Name x px) slice pos) P :=
  EW_sub (EW_name hg (EW.mono h fun t ⟨i, e, hi, u, hu, p⟩ => e ▸ Op_item (by omega) (by omega) (by simpa using hu) p hs hl) hd hc)
theorem EW_itO {x px slice pos pl ts} {P : AV → Prop} (hg : σ.get x = some (.own pl ts)) (h : EW c σ slice fun t => ∃ i : Nat, t = .int i ∧ i < 2 ^ 60 ∧ ∃ u, ts[i]? = some u ∧ P u)
    (hs : ∀ a b, subscripted slice false a b = operate [a, b] (getItem a b) := by intro _ _; with_unfolding_all rfl) (hl : ∀ o r, letTemporaryGo (.Name x px) o r = pure () := by intro _ _; with_unfolding_all rfl)
    (hd : (x == ("__debug__" : Str)) = false := by decide) (hc : (x == ("__classdict__" : Str)) = false := by decide) : EW c σ (.Subscript (.Name x px) slice pos) P :=
  EW_subOwn hg (EW.mono h fun t ⟨i, e, hi, u, hu, p⟩ => ⟨i, e, by omega, by omega, u, by simpa using hu, p⟩) hs hl hd hc
theorem EW_it2 {value slice pos} {P : AV → Prop} (h : EW c σ value fun v => ∃ ts, v = .list ts ∧ EW c σ slice fun t => ∃ i : Nat, t = .int i ∧ i < 2 ^ 60 ∧ ∃ u, ts[i]? = some u ∧ P u)
    (hs : ∀ a b, subscripted slice false a b = operate [a, b] (getItem a b) := by intro _ _; with_unfolding_all rfl) (hl : ∀ o r, letTemporaryGo value o r = pure () := by intro _ _; with_unfolding_all rfl) : EW c σ (.Subscript value slice pos) P :=
  EW_sub (EW.mono h fun v ⟨ts, e, h⟩ => e ▸ EW.mono h fun t ⟨i, e, hi, u, hu, p⟩ => e ▸ Op_item (by omega) (by omega) (by simpa using hu) p hs hl)
theorem EW_rng1 {mg px e pos} {P : AV → Prop} (G : Glb c.base mg) (h : EW c σ e fun t => ∃ n : Nat, t = .int n ∧ P (.rng (0 : Nat) n 1))
    (hk : c.env.kindOf ("range" : Str) = some .globalImplicit := by rfl)
    (he : ∀ env, starEach [e] env = (false, eval e env) :: starEach [] env := by intro _; rfl)
    (hcc : ∀ env, eval (.Call (.Name "range" px) [e] [] pos) env = (do callWith pos (← eval (.Name "range" px) env) [] (backTo pos (starEach [e] env)) (backToKw pos (keywordEach [] env))) := by intro _; rfl) : EW c σ (.Call (.Name "range" px) [e] [] pos) P :=
  EW_bi G (by decide) (f := .type "range") (by decide +kernel) (.inr ⟨_, rfl⟩) (EsW_cons (EW.mono h fun t ⟨n, e, p⟩ => e ▸ EsW_nil (BiW_range1 p)) he) hk (by decide) he (by intro _; rfl) hcc
theorem EW_rng2 {mg px e e2 pos} {P : AV → Prop} (G : Glb c.base mg) (h : EW c σ e fun t => EW c σ e2 fun t' => ∃ n m : Int, t = .int n ∧ t' = .int m ∧ P (.rng n m 1))
    (hk : c.env.kindOf ("range" : Str) = some .globalImplicit := by rfl)
    (he : ∀ env, starEach [e, e2] env = (false, eval e env) :: starEach [e2] env := by intro _; rfl)
    (he2 : ∀ env, starEach [e2] env = (false, eval e2 env) :: starEach [] env := by intro _; rfl)
    (hp : ∀ env, (backTo pos (starEach [e2] env)).any (·.1) = false := by intro _; rfl)
    (hcc : ∀ env, eval (.Call (.Name "range" px) [e, e2] [] pos) env = (do callWith pos (← eval (.Name "range" px) env) [] (backTo pos (starEach [e, e2] env)) (backToKw pos (keywordEach [] env))) := by intro _; rfl) : EW c σ (.Call (.Name "range" px) [e, e2] [] pos) P :=
  EW_bi G (by decide) (f := .type "range") (by decide +kernel) (.inr ⟨_, rfl⟩) (EsW_cons (EW.mono h fun t h2 => EsW_cons (EW.mono h2 fun t' ⟨n, m, e, e', p⟩ => e ▸ e' ▸ EsW_nil (BiW_range2 p)) he2) he) hk (by decide) he hp hcc
end
end Mine
end B14_part
section F1_part
open PySem PySem.Calls PyProof.Rows PySem.W
namespace Mine

noncomputable def stOf (i : Nat) : Stmt := match PySem.Challenge.pw_pq0536_01.main.body[i]? with | some st => st | none => .Pass default
noncomputable def nmOf : Stmt → Str | .FunctionDef n .. => n | _ => default
noncomputable def paOf : Stmt → Arguments | .FunctionDef _ a .. => a | _ => default
noncomputable def boOf : Stmt → List Stmt | .FunctionDef _ _ b .. => b | _ => []
noncomputable def scOf : Stmt → Scope | .FunctionDef _ _ _ _ _ _ s .. => s | _ => default

theorem len1 {α : Type} {l : List α} (h : l.length = 1) : ∃ x, l = [x] := List.length_eq_one_iff.mp h
theorem len2 {α : Type} {l : List α} (h : l.length = 2) : ∃ x y, l = [x, y] := match l, h with | [x, y], _ => ⟨x, y, rfl⟩
theorem len3 {α : Type} {l : List α} (h : l.length = 3) : ∃ x y z, l = [x, y, z] := match l, h with | [x, y, z], _ => ⟨x, y, z, rfl⟩
theorem len4 {α : Type} {l : List α} (h : l.length = 4) : ∃ x y z u, l = [x, y, z, u] := match l, h with | [x, y, z, u], _ => ⟨x, y, z, u, rfl⟩

structure FnAt (base : Heap) (mg : Str → Option Value) (i : Nat) : Prop where
  f : ∃ a o pm cd doc, mg (nmOf (stOf i)) = some (.ref a) ∧ base.get? a = some o ∧ o.data = .func (docDef (nmOf (stOf i)) (paOf (stOf i)) (boOf (stOf i)) (scOf (stOf i)) pm cd doc) ∧ base.CodeRec cd (nmOf (stOf i))

/-- a function's contract -/
noncomputable def Con (prog : Program) (w : World) (base : Heap) (mg : Str → Option Value) (ln : Option Addr) (x : Str) (k : Nat) (ts : List AV) (Q : AV → Prop) : Prop :=
  ∃ a, mg x = some (.ref a) ∧ Rdef base a ∧ CallW prog w base ln k a ts Q

noncomputable def dgN (w : Nat) : Nat → Nat → List Nat
  | 0, _ => []
  | f + 1, n => if n = 0 then [] else n % 2 ^ w :: dgN w f (n / 2 ^ w)
noncomputable def dg (w n : Nat) : List Nat := dgN w n n
noncomputable def liN (l : List Nat) : List AV := l.map fun (i : Nat) => AV.int (i : Int)
theorem dgN_ext (w : Nat) (hw : 1 ≤ w) : ∀ (f g n : Nat), n ≤ f → n ≤ g → dgN w f n = dgN w g n
  | 0, 0, n, _, _ => rfl
  | 0, g + 1, n, h, _ => by
    have : n = 0 := by omega
    simp [dgN, this]
  | f + 1, 0, n, _, h => by
    have : n = 0 := by omega
    simp [dgN, this]
  | f + 1, g + 1, n, h1, h2 => by
    unfold dgN
    split
    · rfl
    · have : n / 2 ^ w < n := Nat.div_lt_self (by omega) (by
        have : 2 ^ 1 ≤ 2 ^ w := Nat.pow_le_pow_right (by omega) hw
        omega)
      rw [dgN_ext w hw f g _ (by omega) (by omega)]
theorem dg_pos {w n : Nat} (hw : 1 ≤ w) (h : 0 < n) : dg w n = n % 2 ^ w :: dg w (n / 2 ^ w) := by
  unfold dg
  obtain ⟨m, rfl⟩ : ∃ m, n = m + 1 := ⟨n - 1, by omega⟩
  have : (m + 1) / 2 ^ w < m + 1 := Nat.div_lt_self (by omega) (by
        have : 2 ^ 1 ≤ 2 ^ w := Nat.pow_le_pow_right (by omega) hw
        omega)
  conv => lhs; unfold dgN
  rw [if_neg (by omega), dgN_ext w hw m ((m + 1) / 2 ^ w) _ (by omega) (by omega)]

variable {prog : Program} {w : World} {base : Heap} {mg : Str → Option Value} {ln : Option Addr}

theorem locs {env : Env} {names : List Str} (h : (names.all fun x => env.kindOf x == some .local) = true) : ∀ x ∈ names, ∃ b, Slot env x b := fun x m => by
  rw [List.all_eq_true] at h
  exact ⟨_, .inl ⟨by simpa using h x m, rfl⟩⟩

abbrev vV (x : Str) (t : AV) : Str × LV := (x, .val t)
abbrev vI (x : Str) (i : Int) : Str × LV := (x, .val (.int i))
abbrev vO (x : Str) (l : List AV) : Str × LV := (x, .own true l)

theorem andMask {b : Nat} (hb : 3 ≤ b) (hb2 : b ≤ 8) (x : Int) : Builtin.bitAnd x (1 * 2 ^ (b : Int).toNat - 1) = x % 2 ^ b := by
  have : b = 3 ∨ b = 4 ∨ b = 5 ∨ b = 6 ∨ b = 7 ∨ b = 8 := by omega
  rcases this with rfl | rfl | rfl | rfl | rfl | rfl
  · exact bitAnd_m3 x
  · exact bitAnd_m4 x
  · exact bitAnd_m5 x
  · exact bitAnd_m6 x
  · exact bitAnd_m7 x
  · exact bitAnd_m8 x
theorem fdiv_nat (m k : Nat) : Int.fdiv (m : Int) (k : Int) = ((m / k : Nat) : Int) := by
  rw [Int.fdiv_eq_ediv_of_nonneg _ (by omega)]; simp
theorem fmod_nat (m k : Nat) : Int.fmod (m : Int) (k : Int) = ((m % k : Nat) : Int) := by
  rw [Int.fmod_eq_emod_of_nonneg _ (by omega)]; simp
theorem dgN_len (w : Nat) : ∀ f n, (dgN w f n).length ≤ f
  | 0, n => Nat.le_refl _
  | f + 1, n => by
    unfold dgN
    split
    · simp
    · simpa using dgN_len w f _
/-- the number that limbs stand for -/
noncomputable def numOf (w : Nat) : List Nat → Nat
  | [] => 0
  | l :: r => l + 2 ^ w * numOf w r
theorem dg_num {w : Nat} (hw : 1 ≤ w) : ∀ n, numOf w (dg w n) = n := by
  intro n
  induction n using Nat.strongRecOn with
  | ind n ih =>
    by_cases h : n = 0
    · subst h; rfl
    · rw [dg_pos hw (by omega)]
      have lt : n / 2 ^ w < n := Nat.div_lt_self (by omega) (by
        have : 2 ^ 1 ≤ 2 ^ w := Nat.pow_le_pow_right (by omega) hw
        omega)
      simp only [numOf, ih _ lt]
      have := Nat.div_add_mod n (2 ^ w)
      omega
theorem dg_len {w : Nat} (hw : 1 ≤ w) : ∀ (k n : Nat), n < 2 ^ (w * k) → (dg w n).length ≤ k
  | 0, n, h => by
    have : n = 0 := by simpa using h
    subst this; simp [dg, dgN]
  | k + 1, n, h => by
    by_cases h0 : n = 0
    · subst h0; simp [dg, dgN]
    · rw [dg_pos hw (by omega)]
      have : n / 2 ^ w < 2 ^ (w * k) := by
        rw [Nat.div_lt_iff_lt_mul (Nat.pow_pos (by decide)), ← Nat.pow_add]
        rw [Nat.mul_add, Nat.mul_one] at h; exact h
      have := dg_len hw k _ this
      simp; omega

theorem liN_snoc (l : List Nat) (x : Nat) : liN (l ++ [x]) = liN l ++ [.int x] := by simp [liN]
noncomputable def ownB (x : Str) : Sg → Bool
  | [] => true
  | (y, .own _ _) :: r => decide (y = x) && ownB x r
  | (y, .val _) :: r => ownB x r
theorem ownOne {x : Str} : ∀ {σ : Sg}, ownB x σ = true → ∀ y p u, σ.get y = some (.own p u) → y = x
  | (z, .own _ _) :: r, h, y, p, u, g => by
    simp only [ownB, Bool.and_eq_true, decide_eq_true_eq] at h
    unfold Sg.get at g
    split at g
    · rename_i q; exact q ▸ h.1
    · exact ownOne h.2 y p u g
  | (z, .val _) :: r, h, y, p, u, g => by
    unfold Sg.get at g
    split at g
    · cases g
    · exact ownOne (σ := r) h y p u g
theorem Sg.le_trans' {σ τ ρ : Sg} (h : Sg.le σ τ) (e : ρ = σ) : Sg.le ρ τ := e ▸ h

theorem nat_of_ok (F : FnAt base mg 4) (G : Glb base mg) {n b : Nat} (hb : 3 ≤ b) (hb2 : b ≤ 8) (hlen : (dg b n).length ≤ 10000) :
    Con prog w base mg ln "nat_of" 1 [.int n, .int b] fun t => t = .list (liN (dg b n)) := by
  obtain ⟨a, o, pm, cd, doc, hm, ho, hd, hc⟩ := F.f
  refine ⟨a, hm, ⟨o, _, ho, hd⟩, callW_def (names := ["number", "w"]) ho hd G.lim hc (fun vs h => ?_) rfl (by rfl) fun A L R Lo => ?_⟩
  · obtain ⟨x, y, rfl⟩ := len2 h; rfl
  have hn0 : ¬ ((n : Int) < 0) := by omega
  refine SWs_cons (SW_if (TW_cmp (EW_name rfl (EW_int (Op_lt ⟨_, rfl, ?_⟩)))))
  rw [if_neg (by simp)]
  refine SWs_nil (SWs_cons (SW_tupOwnSw (names := ["found", "mask"]) R.hd (locs rfl) (EWF_list (EsW_nil ⟨Nat.zero_le _, EsW_cons (EW_bin (EW_bin (EW_int (EW_name rfl (Op_shl (by omega) (by omega) (by decide) (EW_int (Op_sub (EsW_nil ⟨Nat.le_of_ble_eq_true rfl, rfl, ?_⟩)))))))) ⟩)))) 
  refine SWs_cons (SW_while (fun m σ => ∃ (acc : List Nat), σ = [vI "number" m, vI "w" b, vI "mask" (1 * 2 ^ (b : Int).toNat - 1), vO "found" (liN acc)] ∧ acc ++ dg b m = dg b n)
    (Sg.le_cons rfl (Sg.le_cons rfl (Sg.le_cons rfl (Sg.le_cons rfl Sg.le_nil)))) ⟨[], rfl, rfl⟩ ?_)
  rintro m σ ⟨acc, rfl, hJ⟩
  refine TW_cmp (EW_name rfl (EW_int (Op_gt ⟨_, rfl, ?_⟩)))
  by_cases hm0 : 0 < m
  · rw [if_pos (by simpa using hm0)]
    refine SWs_cons (SW_append rfl (by rw [← hJ] at hlen; simp [liN] at hlen ⊢; omega) (ownOne rfl) (EW_bin (EW_name rfl (EW_name rfl (Op_and ?_)))))
    rw [andMask hb hb2, show (m : Int) % 2 ^ b = ((m % 2 ^ b : Nat) : Int) by push_cast; rfl, ← liN_snoc]
    refine SWs_cons (SW_aug (.inl ⟨rfl, rfl⟩) rfl (EW_name rfl (Op_ishr (by omega) ?_)))
    rw [show (m : Int).fdiv (2 ^ (b : Int).toNat) = ((m / 2 ^ b : Nat) : Int) by rw [← fdiv_nat]; simp]
    refine SWs_nil ⟨m / 2 ^ b, _, Nat.div_lt_self (by omega) (Nat.one_lt_two_pow (by omega)), Sg.le_trans' (Sg.le_cons rfl (Sg.le_cons rfl (Sg.le_cons rfl (Sg.le_cons rfl Sg.le_nil)))) rfl, acc ++ [m % 2 ^ b], rfl, ?_⟩
    rw [← hJ, dg_pos (by omega) hm0]; simp
  · rw [if_neg (by simpa using hm0)]
    have : m = 0 := by omega
    subst this
    refine SWs_cons (SW_retOwn rfl ?_)
    have : acc = dg b n := by rw [← hJ]; simp [dg, dgN]
    rw [this]
end Mine
end F1_part
section F2_part
open PySem PySem.Calls PyProof.Rows PySem.W
namespace Mine

noncomputable def cmpE : List Nat → List Nat → Int
  | x :: a, y :: b => if cmpE a b = 0 then (if x = y then 0 else if x < y then -1 else 1) else cmpE a b
  | _, _ => 0
noncomputable def cmpL (a b : List Nat) : Int := if a.length = b.length then cmpE a b else if a.length < b.length then -1 else 1
theorem cmpE_drop : ∀ (j : Nat) (a b : List Nat), cmpE (a.drop j) (b.drop j) ≠ 0 → cmpE a b = cmpE (a.drop j) (b.drop j)
  | 0, a, b, _ => rfl
  | j + 1, [], b, h => by simp [cmpE] at h
  | j + 1, x :: a, [], h => by
    have : cmpE ((x :: a).drop (j + 1)) (([] : List Nat).drop (j + 1)) = 0 := by cases (x :: a).drop (j + 1) <;> rfl
    exact absurd this h
  | j + 1, x :: a, y :: b, h => by
    simp only [List.drop_succ_cons] at h ⊢
    have := cmpE_drop j a b h
    simp only [cmpE]
    rw [this, if_neg h]
theorem liN_get {l : List Nat} {i : Nat} (h : i < l.length) : (liN l)[i]? = some (.int (l[i] : Int)) := by simp [liN, h]
theorem liN_len (l : List Nat) : (liN l).length = l.length := by simp [liN]

variable {prog : Program} {w : World} {base : Heap} {mg : Str → Option Value} {ln : Option Addr}

theorem compare_ok (F : FnAt base mg 5) (G : Glb base mg) {a b : List Nat} (ha : a.length ≤ 10000) (hb : b.length ≤ 10000) :
    Con prog w base mg ln "compare" 1 [.list (liN a), .list (liN b)] fun t => t = .int (cmpL a b) := by
  obtain ⟨fa, o, pm, cd, doc, hm, ho, hd, hc⟩ := F.f
  refine ⟨fa, hm, ⟨o, _, ho, hd⟩, callW_def (names := ["a", "b"]) ho hd G.lim hc (fun vs h => ?_) rfl (by rfl) fun A L R Lo => ?_⟩
  · obtain ⟨x, y, rfl⟩ := len2 h; rfl
  have la : (liN a).length < 2 ^ 60 := by rw [liN_len]; omega
  have lb : (liN b).length < 2 ^ 60 := by rw [liN_len]; omega
  refine SWs_cons (SW_if (TW_cmp (EW_lenV G rfl la (EW_lenV G rfl lb (Op_ne ⟨_, rfl, ?_⟩)))))
  rw [liN_len, liN_len]
  by_cases hl : a.length = b.length
  · rw [if_neg (by simp [hl])]
    refine SWs_nil (SWs_cons (SW_for (It_dn R.hd ?_)))
    refine EW_bi G (by decide) (by decide +kernel) (.inr ⟨"range", rfl⟩) ?_
    refine EsW_cons (EW_bin (EW_lenV G rfl la (EW_int (Op_sub ?_))))
    refine EsW_cons (EW_neg (EW_int ⟨1, rfl, ?_⟩))
    refine EsW_cons (EW_neg (EW_int ⟨1, rfl, ?_⟩))
    refine EsW_nil (BiW_range3 (by decide) (PyProof.noPylong_small (by decide)) ?_)
    refine ⟨a.length, by rw [liN_len], by omega, fun i σ => σ = [vV "a" (.list (liN a)), vV "b" (.list (liN b))] ∧ cmpE (a.drop (a.length - i)) (b.drop (a.length - i)) = 0, _, Sg.le_trans' (Sg.le_cons rfl (Sg.le_cons rfl Sg.le_nil)) rfl, ⟨rfl, by rw [Nat.sub_zero, List.drop_length]; rfl⟩, ?_, ?_⟩
    · rintro i t σ et ⟨rfl, hJ⟩
      obtain ⟨hi, rfl⟩ := dnL_get et
      have ja : a.length - 1 - i < a.length := by omega
      have jb : a.length - 1 - i < b.length := by omega
      refine TgW_name (.inl ⟨rfl, rfl⟩) ?_ (by simp)
      refine SWs_cons (SW_if (TW_cmp (EW_it rfl (EW_name rfl ⟨_, rfl, by omega, _, liN_get ja, EW_it rfl (EW_name rfl ⟨_, rfl, by omega, _, liN_get jb, Op_ne ⟨_, rfl, ?_⟩⟩)⟩))))
      have e1 : a.length - i = a.length - 1 - i + 1 := by omega
      rw [e1] at hJ
      have da : a.drop (a.length - 1 - i) = a[a.length - 1 - i] :: a.drop (a.length - 1 - i + 1) := List.drop_eq_getElem_cons ja
      have db : b.drop (a.length - 1 - i) = b[a.length - 1 - i] :: b.drop (a.length - 1 - i + 1) := List.drop_eq_getElem_cons jb
      have key : cmpE (a.drop (a.length - 1 - i)) (b.drop (a.length - 1 - i)) = if a[a.length - 1 - i] = b[a.length - 1 - i] then 0 else if a[a.length - 1 - i] < b[a.length - 1 - i] then -1 else 1 := by
        rw [da, db]; simp only [cmpE]; rw [if_pos hJ]
      by_cases heq : a[a.length - 1 - i] = b[a.length - 1 - i]
      · rw [if_neg (by simp [heq])]
        refine SWs_nil (SWs_nil ⟨_, Sg.le_trans' (Sg.le_cons rfl (Sg.le_cons rfl Sg.le_nil)) rfl, rfl, ?_⟩)
        have e2 : a.length - (i + 1) = a.length - 1 - i := by omega
        rw [e2, key, if_pos heq]
      · rw [if_pos (by simp; omega)]
        refine SWs_cons (SW_ret (EW_if (TW_cmp (EW_it rfl (EW_name rfl ⟨_, rfl, by omega, _, liN_get ja, EW_it rfl (EW_name rfl ⟨_, rfl, by omega, _, liN_get jb, Op_lt ⟨_, rfl, ?_⟩⟩)⟩)))))
        rw [if_neg heq] at key
        have nz : cmpE (a.drop (a.length - 1 - i)) (b.drop (a.length - 1 - i)) ≠ 0 := by rw [key]; split <;> decide
        have fin : cmpL a b = if a[a.length - 1 - i] < b[a.length - 1 - i] then -1 else 1 := by
          unfold cmpL; rw [if_pos hl, cmpE_drop _ _ _ nz, key]
        by_cases hlt : a[a.length - 1 - i] < b[a.length - 1 - i]
        · rw [if_pos (by simpa using hlt)]
          exact EW_neg (EW_int ⟨1, rfl, by rw [fin, if_pos hlt]⟩)
        · rw [if_neg (by simpa using hlt)]
          exact EW_int (by rw [fin, if_neg hlt])
    · rintro σ ⟨rfl, hJ⟩
      rw [dnL_len, Nat.sub_self] at hJ
      refine SWs_cons (SW_ret (EW_int ?_))
      unfold cmpL
      rw [if_pos hl]
      simp only [List.drop_zero] at hJ
      rw [hJ]
  · rw [if_pos (by simp; omega)]
    refine SWs_cons (SW_ret (EW_if (TW_cmp (EW_lenV G rfl la (EW_lenV G rfl lb (Op_lt ⟨_, rfl, ?_⟩))))))
    rw [liN_len, liN_len]
    by_cases hlt : a.length < b.length
    · rw [if_pos (by simpa using hlt)]
      exact EW_neg (EW_int ⟨1, rfl, by unfold cmpL; rw [if_neg hl, if_pos hlt]⟩)
    · rw [if_neg (by simpa using hlt)]
      exact EW_int (by unfold cmpL; rw [if_neg hl, if_neg hlt])
end Mine
end F2_part
section F3_part
open PySem PySem.Calls PyProof.Rows PySem.W
namespace Mine

theorem numOf_app (w : Nat) : ∀ (l m : List Nat), numOf w (l ++ m) = numOf w l + 2 ^ (w * l.length) * numOf w m
  | [], m => by simp [numOf]
  | x :: l, m => by
    simp only [List.cons_append, numOf, numOf_app w l m, List.length_cons]
    rw [Nat.mul_add w l.length 1, Nat.mul_one, Nat.pow_add, Nat.mul_add, ← Nat.mul_assoc, Nat.mul_comm (2 ^ w) (2 ^ (w * l.length))]
    omega
theorem numOf_one (w x : Nat) : numOf w [x] = x := by simp [numOf]
theorem numOf_take (w : Nat) {l : List Nat} {i : Nat} (h : i < l.length) : numOf w (l.take (i + 1)) = numOf w (l.take i) + 2 ^ (w * i) * l[i] := by
  rw [List.take_succ_eq_append_getElem h, numOf_app, numOf_one, List.length_take, Nat.min_eq_left (by omega)]
theorem carry_step {w i F c x S : Nat} (h : F + 2 ^ (w * i) * c = S) : F + 2 ^ (w * i) * ((c + x) % 2 ^ w) + 2 ^ (w * (i + 1)) * ((c + x) / 2 ^ w) = S + 2 ^ (w * i) * x := by
  have e := Nat.div_add_mod (c + x) (2 ^ w)
  rw [Nat.mul_add w i 1, Nat.mul_one, Nat.pow_add, Nat.mul_assoc]
  have e2 : 2 ^ (w * i) * (2 ^ w * ((c + x) / 2 ^ w) + (c + x) % 2 ^ w) = 2 ^ (w * i) * (c + x) := by rw [e]
  rw [Nat.mul_add, Nat.mul_add] at e2
  omega

theorem SWs_split {c : Cx} {σ : Sg} {l : List Stmt} {Q : Out → Prop} (h : SW c σ (l.headD (.Pass default)) fun o => match o with | .next σ' => SWs c σ' (l.drop 1) Q | .ret t => Q (.ret t)) (hne : l.isEmpty = false := by rfl) : SWs c σ l Q := by
  cases l with
  | nil => cases hne
  | cons st r => exact SWs_cons h

variable {prog : Program} {w : World} {base : Heap} {mg : Str → Option Value} {ln : Option Addr}

theorem add_ok (F : FnAt base mg 6) (G : Glb base mg) {a b : List Nat} {k : Nat} (hk : 3 ≤ k) (hk2 : k ≤ 8) (ha : a.length ≤ 5000) (hb : b.length ≤ 5000) :
    Con prog w base mg ln "add" 1 [.list (liN a), .list (liN b), .int k] fun t => ∃ r, t = .list (liN r) ∧ numOf k r = numOf k a + numOf k b ∧ r.length ≤ max a.length b.length + 1 := by
  obtain ⟨fa, o, pm, cd, doc, hm, ho, hd, hc⟩ := F.f
  refine ⟨fa, hm, ⟨o, _, ho, hd⟩, callW_def (names := ["a", "b", "w"]) ho hd G.lim hc (fun vs h => ?_) rfl (by rfl) fun A L R Lo => ?_⟩
  · obtain ⟨x, y, z, rfl⟩ := len3 h; rfl
  have rest : ∀ a b : List Nat, a.length ≤ 5000 → b.length ≤ a.length → ∀ Q : Out → Prop, (∀ r, numOf k r = numOf k a + numOf k b → r.length ≤ a.length + 1 → Q (.ret (.list (liN r)))) →
      SWs ⟨prog, w, base, A, envOfC (nmOf (stOf 6)) (scOf (stOf 6)) L fa cd, ln⟩ [vV "a" (.list (liN a)), vV "b" (.list (liN b)), vI "w" k] ((boOf (stOf 6)).drop 1) Q := by
    intro a b ha hab Q hQ
    have la : (liN a).length < 2 ^ 60 := by rw [liN_len]; omega
    have lb : (liN b).length < 2 ^ 60 := by rw [liN_len]; omega
    refine SWs_cons (SW_tupOwnSw (names := ["found", "carry", "mask"]) R.hd (locs rfl) (EWF_list (EsW_nil ⟨Nat.zero_le _, EsW_cons (EW_int (EsW_cons (EW_bin (EW_bin (EW_int (EW_name rfl (Op_shl (by omega) (by omega) (by decide) (EW_int (Op_sub (EsW_nil ⟨Nat.le_of_ble_eq_true rfl, rfl, ?_⟩))))))))))⟩)))
    refine SWs_cons (SW_for (It_up R.hd (EW_rng1 G (EW_lenV G rfl lb ⟨_, rfl, _, _, rfl, by omega, by omega, fun i σ => ∃ (acc : List Nat) (c : Nat), σ = [vV "a" (.list (liN a)), vV "b" (.list (liN b)), vI "w" k, vI "carry" c, vI "mask" (1 * 2 ^ (k : Int).toNat - 1), vO "found" (liN acc)] ∧ acc.length = i ∧ numOf k acc + 2 ^ (k * i) * c = numOf k (a.take i) + numOf k (b.take i), _,
      Sg.le_trans' (Sg.le_cons rfl (Sg.le_cons rfl (Sg.le_cons rfl (Sg.le_cons rfl (Sg.le_cons rfl (Sg.le_cons rfl Sg.le_nil)))))) rfl, ⟨[], 0, rfl, rfl, by simp [numOf]⟩, ?_, ?_⟩))))
    · rintro i t σ et ⟨acc, c, rfl, hl, hJ⟩
      obtain ⟨hi, rfl⟩ := upL_get et
      rw [liN_len] at hi
      have ib : i < b.length := by omega
      have ia : i < a.length := by omega
      refine TgW_name (.inl ⟨rfl, rfl⟩) ?_ (by simp)
      simp only [Nat.zero_add]
      refine SWs_cons (SW_aug (.inl ⟨rfl, rfl⟩) rfl (EW_bin (EW_it rfl (EW_name rfl ⟨_, rfl, by omega, _, liN_get ia, EW_it rfl (EW_name rfl ⟨_, rfl, by omega, _, liN_get ib, Op_add (Op_iadd ?_)⟩)⟩))))
      refine SWs_cons (SW_append rfl (by rw [liN_len]; omega) (ownOne rfl) (EW_bin (EW_name rfl (EW_name rfl (Op_and ?_)))))
      rw [andMask hk hk2, show ((c : Int) + ((a[i] : Nat) + (b[i] : Nat) : Int)) = ((c + (a[i] + b[i]) : Nat) : Int) by push_cast; rfl, show (((c + (a[i] + b[i]) : Nat) : Int)) % 2 ^ k = (((c + (a[i] + b[i])) % 2 ^ k : Nat) : Int) by push_cast; rfl, ← liN_snoc]
      refine SWs_cons (SW_aug (.inl ⟨rfl, rfl⟩) rfl (EW_name rfl (Op_ishr (by omega) ?_)))
      rw [show ((c + (a[i] + b[i]) : Nat) : Int).fdiv (2 ^ (k : Int).toNat) = (((c + (a[i] + b[i])) / 2 ^ k : Nat) : Int) by rw [← fdiv_nat]; simp]
      refine SWs_nil ⟨_, Sg.le_trans' (Sg.le_cons rfl (Sg.le_cons rfl (Sg.le_cons rfl (Sg.le_cons rfl (Sg.le_cons rfl (Sg.le_cons rfl Sg.le_nil)))))) rfl, acc ++ [(c + (a[i] + b[i])) % 2 ^ k], (c + (a[i] + b[i])) / 2 ^ k, rfl, by simp [hl], ?_⟩
      rw [numOf_app, numOf_one, numOf_take _ ia, numOf_take _ ib, hl, carry_step hJ, Nat.mul_add]
      omega
    · rintro σ ⟨acc, c, rfl, hl, hJ⟩
      rw [upL_len, liN_len, Nat.sub_zero] at hl hJ
      refine SWs_cons (SW_for (It_up R.hd (EW_rng2 G (EW_lenV G rfl lb (EW_lenV G rfl la ⟨_, _, rfl, rfl, _, _, rfl, by omega, by omega, fun i σ => ∃ (acc : List Nat) (c : Nat), σ = [vV "a" (.list (liN a)), vV "b" (.list (liN b)), vI "w" k, vI "carry" c, vI "mask" (1 * 2 ^ (k : Int).toNat - 1), vO "found" (liN acc)] ∧ acc.length = b.length + i ∧ numOf k acc + 2 ^ (k * (b.length + i)) * c = numOf k (a.take (b.length + i)) + numOf k b, _,
        Sg.le_trans' (Sg.le_cons rfl (Sg.le_cons rfl (Sg.le_cons rfl (Sg.le_cons rfl (Sg.le_cons rfl (Sg.le_cons rfl Sg.le_nil)))))) rfl, ⟨acc, c, rfl, by omega, by simpa using hJ⟩, ?_, ?_⟩)))))
      · rintro i t σ et ⟨acc, c, rfl, hl, hJ⟩
        obtain ⟨hi, rfl⟩ := upL_get et
        rw [liN_len, liN_len] at hi
        rw [liN_len]
        have ia : b.length + i < a.length := by omega
        refine TgW_name (.inl ⟨rfl, rfl⟩) ?_ (by simp)
        refine SWs_cons (SW_aug (.inl ⟨rfl, rfl⟩) rfl (EW_it rfl (EW_name rfl ⟨_, rfl, by omega, _, liN_get ia, Op_iadd ?_⟩)))
        refine SWs_cons (SW_append rfl (by rw [liN_len]; omega) (ownOne rfl) (EW_bin (EW_name rfl (EW_name rfl (Op_and ?_)))))
        rw [andMask hk hk2, show ((c : Int) + ((a[b.length + i] : Nat) : Int)) = ((c + a[b.length + i] : Nat) : Int) by push_cast; rfl, show (((c + a[b.length + i] : Nat) : Int)) % 2 ^ k = (((c + a[b.length + i]) % 2 ^ k : Nat) : Int) by push_cast; rfl, ← liN_snoc]
        refine SWs_cons (SW_aug (.inl ⟨rfl, rfl⟩) rfl (EW_name rfl (Op_ishr (by omega) ?_)))
        rw [show ((c + a[b.length + i] : Nat) : Int).fdiv (2 ^ (k : Int).toNat) = (((c + a[b.length + i]) / 2 ^ k : Nat) : Int) by rw [← fdiv_nat]; simp]
        refine SWs_nil ⟨_, Sg.le_trans' (Sg.le_cons rfl (Sg.le_cons rfl (Sg.le_cons rfl (Sg.le_cons rfl (Sg.le_cons rfl (Sg.le_cons rfl Sg.le_nil)))))) rfl, acc ++ [(c + a[b.length + i]) % 2 ^ k], (c + a[b.length + i]) / 2 ^ k, rfl, by simp [hl]; omega, ?_⟩
        rw [numOf_app, numOf_one, ← Nat.add_assoc, numOf_take _ ia, hl, carry_step hJ]
        omega
      · rintro σ ⟨acc, c, rfl, hl, hJ⟩
        rw [upL_len, liN_len, liN_len] at hl hJ
        rw [show b.length + (a.length - b.length) = a.length by omega] at hl hJ
        rw [List.take_length] at hJ
        refine SWs_cons (SW_if (TW_cmp (EW_name rfl (EW_int (Op_gt ⟨_, rfl, ?_⟩)))))
        by_cases hc0 : 0 < c
        · rw [if_pos (by simpa using hc0)]
          refine SWs_cons (SW_append rfl (by rw [liN_len]; omega) (ownOne rfl) (EW_name rfl ?_))
          rw [← liN_snoc]
          refine SWs_nil (SWs_cons (SW_retOwn rfl (hQ _ ?_ (by simp [hl]))))
          rw [numOf_app, numOf_one, hl]; exact hJ
        · rw [if_neg (by simpa using hc0)]
          have : c = 0 := by omega
          subst this
          exact SWs_nil (SWs_cons (SW_retOwn rfl (hQ _ (by omega) (by omega))))
  have la : (liN a).length < 2 ^ 60 := by rw [liN_len]; omega
  have lb : (liN b).length < 2 ^ 60 := by rw [liN_len]; omega
  refine SWs_split (SW_if (TW_cmp (EW_lenV G rfl la (EW_lenV G rfl lb (Op_lt ⟨_, rfl, ?_⟩)))))
  rw [liN_len, liN_len]
  by_cases hl : a.length < b.length
  · rw [if_pos (by simpa using hl)]
    refine SWs_cons (SW_tupSw (names := ["a", "b"]) R.hd (locs rfl) (EW_tuple (EsW_cons (EW_name rfl (EsW_cons (EW_name rfl (EsW_nil ⟨Nat.le_of_ble_eq_true rfl, _, rfl, rfl, ?_⟩)))))))
    refine SWs_nil (SWs_le (σ' := [vV "a" (.list (liN b)), vV "b" (.list (liN a)), vI "w" k]) (Sg.le_cons rfl (Sg.le_cons rfl (Sg.le_cons rfl Sg.le_nil))) ?_)
    exact rest b a hb (by omega) _ fun r h1 h2 => ⟨r, rfl, by omega, by omega⟩
  · rw [if_neg (by simpa using hl)]
    refine SWs_nil ?_
    exact rest a b ha (by omega) _ fun r h1 h2 => ⟨r, rfl, by omega, by omega⟩
end Mine
end F3_part
section B15_part
open PySem PySem.Calls PyProof.Rows PySem.W
namespace Mine

theorem Rm.le {A k k'} (R : Rm A k') (h : k ≤ k') : Rm A k := ⟨R.hd, by have := R.dp; omega, by have := R.un; omega⟩
section
variable {c : Cx} {σ : Sg}
theorem EW_fn {mg : Str → Option Value} {x : Str} {px : Pos} {e args pos k k'} {Q : AV → Prop} {i : Nat} (G : Glb c.base mg) (F : FnAt c.base mg i) (R : Rm c.A k') (h : EsW c σ (e :: args) fun ts => ∃ Q', Con c.prog c.w c.base mg c.ln x k ts Q' ∧ ∀ t, Q' t → Q t)
    (hk : k ≤ k' := by decide) (hx : x = nmOf (stOf i) := by rfl)
    (hg : c.env.kindOf x = some .globalImplicit := by rfl) (hd : (x == ("__debug__" : Str)) = false := by decide)
    (he : ∀ env, starEach (e :: args) env = (false, eval e env) :: starEach args env := by intro _; rfl)
    (hc : ∀ env, eval (.Call (.Name x px) (e :: args) [] pos) env = (do callWith pos (← eval (.Name x px) env) [] (backTo pos (starEach (e :: args) env)) (backToKw pos (keywordEach [] env))) := by intro _; rfl) : EW c σ (.Call (.Name x px) (e :: args) [] pos) Q := by
  obtain ⟨a, o, pm, cd, doc, hm, ho, hdd, hcr⟩ := F.f
  rw [← hx] at hm
  refine EW_call (R.le hk) (EW_nameG G hm ⟨a, rfl, ⟨o, _, ho, hdd⟩, fun O X E s pos I => wpAny_mono (h O X E s pos I) (fun vs s' ⟨k, ts, r, q⟩ => ⟨k, ts, r, ?_⟩) fun _ _ x => x⟩ hg hd) he hc
  obtain ⟨Q', ⟨b, hb, _, w⟩, q⟩ := q
  rw [hm] at hb
  cases hb
  exact w.mono q
/-- a call of a function that a name holds -/
theorem EW_fnV {mg : Str → Option Value} {x y : Str} {px : Pos} {e args pos k k' a} {Q : AV → Prop} (R : Rm c.A k') (hv : σ.get x = some (.val (.fn a))) (hm : mg y = some (.ref a)) (hr : Rdef c.base a) (h : EsW c σ (e :: args) fun ts => ∃ Q', Con c.prog c.w c.base mg c.ln y k ts Q' ∧ ∀ t, Q' t → Q t)
    (hk : k ≤ k' := by decide) (hd : (x == ("__debug__" : Str)) = false := by decide) (hcd : (x == ("__classdict__" : Str)) = false := by decide)
    (he : ∀ env, starEach (e :: args) env = (false, eval e env) :: starEach args env := by intro _; rfl)
    (hc : ∀ env, eval (.Call (.Name x px) (e :: args) [] pos) env = (do callWith pos (← eval (.Name x px) env) [] (backTo pos (starEach (e :: args) env)) (backToKw pos (keywordEach [] env))) := by intro _; rfl) : EW c σ (.Call (.Name x px) (e :: args) [] pos) Q := by
  refine EW_call (R.le hk) (EW_name hv ⟨a, rfl, hr, fun O X E s pos I => wpAny_mono (h O X E s pos I) (fun vs s' ⟨k, ts, r, q⟩ => ⟨k, ts, r, ?_⟩) fun _ _ x => x⟩ hd hcd) he hc
  obtain ⟨Q', ⟨b, hb, _, w⟩, q⟩ := q
  rw [hm] at hb
  cases hb
  exact w.mono q

/-- a comprehension over a list's images -/
theorem CompT_map {α : Type} {scope : Scope} {elt target : Expr} {R : List AV → Prop} (l : List α) (f g : α → AV)
    (h : ∀ C x, Lo c.base (cenv scope C c.env) → x ∈ l → TgC { c with env := cenv scope C c.env } (cws scope C) (Sg.free scope σ) target (f x) fun σ'' => EW { c with env := cenv scope C c.env } σ'' elt fun u => u = g x)
    (r : R (l.map g)) : CompT c σ scope elt target [] (l.map f) R := by
  refine ⟨fun i acc => acc = (l.take i).map g, by simp, fun C i t acc L e hj => ?_, fun acc hj => ?_⟩
  · have hi : i < l.length := by simpa using (List.getElem?_eq_some_iff.mp e).1
    have et : t = f l[i] := by
      simp only [List.getElem?_map, List.getElem?_eq_getElem hi, Option.map_some] at e
      exact (Option.some.inj e).symm
    subst et
    refine fun O X E s v L' I r => wpAny_mono (h C l[i] L (List.getElem_mem _) O X E s v L' I r) (fun _ s' ⟨a, b, σ', I', q⟩ => ⟨a, b, σ', I', ?_⟩) fun _ _ x => x
    simp only [IfsW, if_true]
    refine EW.mono q fun u e => ?_
    subst e; subst hj
    show _ = (l.take (i + 1)).map g
    rw [List.take_succ_eq_append_getElem hi, List.map_append]; rfl
  · rw [hj]; simp only [List.length_map, List.take_length]; exact r
/-- a comprehension with a test -/
theorem CompT_filter {α : Type} {scope : Scope} {elt target test : Expr} {R : List AV → Prop} (l : List α) (f g : α → AV) (p : α → Bool)
    (h : ∀ C x, Lo c.base (cenv scope C c.env) → x ∈ l → TgC { c with env := cenv scope C c.env } (cws scope C) (Sg.free scope σ) target (f x) fun σ'' => TW { c with env := cenv scope C c.env } σ'' test fun b => b = p x ∧ (b = true → EW { c with env := cenv scope C c.env } σ'' elt fun u => u = g x))
    (r : R ((l.filter p).map g)) : CompT c σ scope elt target [test] (l.map f) R := by
  refine ⟨fun i acc => acc = ((l.take i).filter p).map g, by simp, fun C i t acc L e hj => ?_, fun acc hj => ?_⟩
  · have hi : i < l.length := by simpa using (List.getElem?_eq_some_iff.mp e).1
    have et : t = f l[i] := by
      simp only [List.getElem?_map, List.getElem?_eq_getElem hi, Option.map_some] at e
      exact (Option.some.inj e).symm
    subst et
    refine fun O X E s v L' I r => wpAny_mono (h C l[i] L (List.getElem_mem _) O X E s v L' I r) (fun _ s' ⟨a, b, σ', I', q⟩ => ⟨a, b, σ', I', ?_⟩) fun _ _ x => x
    refine TW.mono q fun b hb => ?_
    obtain ⟨hb, he⟩ := hb
    cases b with
    | true =>
      rw [if_pos rfl]
      refine EW.mono (he rfl) fun u e => ?_
      subst e; subst hj
      show _ = ((l.take (i + 1)).filter p).map g
      rw [List.take_succ_eq_append_getElem hi, List.filter_append, List.map_append]
      have : [l[i]].filter p = [l[i]] := by simp [← hb]
      rw [this]; rfl
    | false =>
      rw [if_neg (by decide)]
      subst hj
      show _ = ((l.take (i + 1)).filter p).map g
      have : [l[i]].filter p = [] := by simp [← hb]
      rw [List.take_succ_eq_append_getElem hi, List.filter_append, List.map_append, this]
      simp
  · rw [hj]; simp only [List.length_map, List.take_length]; exact r
end
noncomputable def liI (l : List Int) : AV := .list (l.map AV.int)
noncomputable def liM (m : List (List Int)) : AV := .list (m.map liI)
end Mine
end B15_part
section F4_part
open PySem PySem.Calls PyProof.Rows PySem.W
namespace Mine
variable {prog : Program} {w : World} {base : Heap} {mg : Str → Option Value} {ln : Option Addr}

/-- an int with its sign and limbs -/
noncomputable def sgn (b : Nat) (x : Int) : AV := .tup [.bool (decide (x < 0)), .list (liN (dg b x.natAbs))]

theorem dg_small {b n : Nat} (hb : 3 ≤ b) (h : n < 2 ^ 30) : (dg b n).length ≤ 10 :=
  dg_len (by omega) 10 n (Nat.lt_of_lt_of_le h (Nat.pow_le_pow_right (by omega) (by omega)))

theorem s_of_ok (F4 : FnAt base mg 4) (F : FnAt base mg 8) (G : Glb base mg) {x : Int} {b : Nat} (hb : 3 ≤ b) (hb2 : b ≤ 8) (hx : x.natAbs < 2 ^ 30) :
    Con prog w base mg ln "s_of" 2 [.int x, .int b] fun t => t = sgn b x := by
  obtain ⟨fa, o, pm, cd, doc, hm, ho, hd, hc⟩ := F.f
  refine ⟨fa, hm, ⟨o, _, ho, hd⟩, callW_def (names := ["number", "w"]) ho hd G.lim hc (fun vs h => ?_) rfl (by rfl) fun A L R Lo => ?_⟩
  · obtain ⟨x, y, rfl⟩ := len2 h; rfl
  refine SWs_cons (SW_ret (EW_tuple (EsW_cons (EW_cmp (EW_name rfl (EW_int (Op_lt ?_)))))))
  refine EsW_cons (EW_fn G F4 (k := 1) R ?_)
  refine EsW_cons (EW_bi G (by decide) (f := .builtin "abs") (by decide +kernel) (.inl ⟨_, rfl⟩) (EsW_cons (EW_name rfl (EsW_nil (BiW_abs ?_)))))
  refine EsW_cons (EW_name rfl (EsW_nil ?_))
  have e : (if x < 0 then -x else x) = (x.natAbs : Int) := by split <;> omega
  rw [e]
  refine ⟨_, nat_of_ok F4 G hb hb2 (by have := dg_small hb hx; omega), ?_⟩
  rintro t rfl
  exact EsW_nil ⟨Nat.le_of_ble_eq_true rfl, rfl⟩

theorem m_of_ok (F4 : FnAt base mg 4) (F8 : FnAt base mg 8) (F : FnAt base mg 10) (G : Glb base mg) {m : List (List Int)} {b : Nat} (hb : 3 ≤ b) (hb2 : b ≤ 8) (hl : m.length ≤ 5000) (hl2 : ∀ r ∈ m, r.length ≤ 5000) (hx : ∀ r ∈ m, ∀ x ∈ r, x.natAbs < 2 ^ 30) :
    Con prog w base mg ln "m_of" 3 [liM m, .int b] fun t => t = .list (m.map fun r => .list (r.map (sgn b))) := by
  obtain ⟨fa, o, pm, cd, doc, hm, ho, hd, hc⟩ := F.f
  refine ⟨fa, hm, ⟨o, _, ho, hd⟩, callW_def (names := ["rows", "w"]) ho hd G.lim hc (fun vs h => ?_) rfl (by rfl) fun A L R Lo => ?_⟩
  · obtain ⟨x, y, rfl⟩ := len2 h; rfl
  refine SWs_cons (SW_ret (EW_comp Lo (CompOk.of rfl (by rfl)) (It_list R.hd (EW_name rfl ⟨_, rfl, by simpa using hl, CompT_map m liI (fun r => .list (r.map (sgn b))) ?_ rfl⟩))))
  intro C r Lo2 hr
  refine TgC_name (.inl ⟨rfl, rfl⟩) (.head _) ?_ (by simp [liI])
  refine EW_comp Lo2 (CompOk.of rfl (by rfl)) (It_list R.hd (EW_name rfl ⟨_, rfl, by simpa using hl2 r hr, CompT_map r AV.int (sgn b) ?_ rfl⟩))
  intro C2 x Lo3 hxm
  refine TgC_name (.inl ⟨rfl, rfl⟩) (.head _) ?_ (by simp)
  refine EW_fn G F8 (k := 2) R (EsW_cons (EW_name rfl (EsW_cons (EW_name rfl (EsW_nil ?_)))))
  exact ⟨_, s_of_ok F4 F8 G hb hb2 (hx r hr x hxm), fun t e => e⟩

theorem rest_plain_ok (F : FnAt base mg 11) (G : Glb base mg) {x : Int} {p b : Nat} (hb : 3 ≤ b) (hb2 : b ≤ 8) (hp : 0 < p) (hp2 : p < 2 ^ 30) (hx : x.natAbs < 2 ^ 30) :
    Con prog w base mg ln "rest_plain" 1 [sgn b x, .int p, .int b] fun t => t = .int (x % p) := by
  obtain ⟨fa, o, pm, cd, doc, hm, ho, hd, hc⟩ := F.f
  refine ⟨fa, hm, ⟨o, _, ho, hd⟩, callW_def (names := ["x", "p", "w"]) ho hd G.lim hc (fun vs h => ?_) rfl (by rfl) fun A L R Lo => ?_⟩
  · obtain ⟨x, y, z, rfl⟩ := len3 h; rfl
  generalize hD : dg b x.natAbs = D
  have hDl : D.length ≤ 10 := by rw [← hD]; exact dg_small hb hx
  have hDn : numOf b D = x.natAbs := by rw [← hD]; exact dg_num (by omega) _
  have hs : sgn b x = .tup [.bool (decide (x < 0)), .list (liN D)] := by unfold sgn; rw [hD]
  rw [hs]
  refine SWs_cons (SW_asg (.inl ⟨rfl, rfl⟩) (EW_int ?_))
  refine SWs_cons (SW_for (It_rev G R.hd rfl (EW_sub (EW_name rfl (EW_int (Op_itemT (by decide) (by decide) rfl ⟨_, rfl, fun i σ => σ = [vV "x" (.tup [.bool (decide (x < 0)), .list (liN D)]), vI "p" p, vI "w" b, vI "found" ((numOf b (D.drop (D.length - i)) % p : Nat) : Int)], [vV "x" (.tup [.bool (decide (x < 0)), .list (liN D)]), vI "p" p, vI "w" b, vI "found" 0],
    (Sg.le_cons rfl (Sg.le_cons rfl (Sg.le_cons rfl (Sg.le_cons rfl Sg.le_nil)))), ?_, ?_, ?_⟩))))))
  · dsimp only; rw [Nat.sub_zero, List.drop_length]; simp [numOf]
  · rintro i t σ et rfl
    have hi : i < D.length := by simpa [liN_len] using (List.getElem?_eq_some_iff.mp et).1
    have e1 : t = .int (D[D.length - 1 - i] : Nat) := by
      rw [List.getElem?_reverse (by rw [liN_len]; exact hi), liN_len, liN_get (by omega)] at et
      exact (Option.some.inj et).symm
    subst e1
    refine TgW_name (.inl ⟨rfl, rfl⟩) ?_ (by simp)
    have hmod : numOf b (D.drop (D.length - i)) % p < 2 ^ 30 := by have := Nat.mod_lt (numOf b (D.drop (D.length - i))) hp; omega
    refine SWs_cons (SW_asg (.inl ⟨rfl, rfl⟩) (EW_bin (EW_bin (EW_bin (EW_name rfl (EW_name rfl (Op_shl (by omega) (by omega) (by simp; omega) (EW_name rfl (Op_add (EW_name rfl (Op_mod ⟨by omega, ?_⟩)))))))))))
    have e2 : D.length - (i + 1) = D.length - 1 - i := by omega
    have e3 : D.drop (D.length - 1 - i) = D[D.length - 1 - i] :: D.drop (D.length - i) := by
      rw [List.drop_eq_getElem_cons (by omega)]; congr 2; omega
    have e4 : ((numOf b (D.drop (D.length - i)) % p : Nat) : Int) * 2 ^ (b : Int).toNat + (D[D.length - 1 - i] : Nat) = ((numOf b (D.drop (D.length - i)) % p * 2 ^ b + D[D.length - 1 - i] : Nat) : Int) := by simp
    have e4' := fmod_nat (numOf b (D.drop (D.length - i)) % p * 2 ^ b + D[D.length - 1 - i]) p
    rw [← e4] at e4'
    have e5 : (numOf b (D.drop (D.length - i)) % p * 2 ^ b + D[D.length - 1 - i]) % p = (D[D.length - 1 - i] + 2 ^ b * numOf b (D.drop (D.length - i))) % p := by
      rw [Nat.add_comm, Nat.mul_comm, Nat.add_mod, Nat.mul_mod, Nat.mod_mod, ← Nat.mul_mod, ← Nat.add_mod]
    rw [e4', e5, show D[D.length - 1 - i] + 2 ^ b * numOf b (D.drop (D.length - i)) = numOf b (D.drop (D.length - (i + 1))) by rw [e2, e3]; simp only [numOf]]
    exact SWs_nil ⟨_, Sg.le_trans' (Sg.le_cons rfl (Sg.le_cons rfl (Sg.le_cons rfl (Sg.le_cons rfl Sg.le_nil)))) rfl, rfl⟩
  · rintro σ rfl
    rw [List.length_reverse, liN_len, Nat.sub_self, List.drop_zero, hDn]
    refine SWs_cons (SW_ret (EW_if (TW_plain (EW_sub (EW_name rfl (EW_int (Op_itemT (by decide) (by decide) rfl (Tr_bool ?_))))))))
    by_cases hx0 : x < 0
    · rw [if_pos (by simpa using hx0)]
      refine EW_bin (EW_neg (EW_name rfl ⟨_, rfl, EW_name rfl (Op_mod ⟨by omega, ?_⟩)⟩))
      congr 1
      rw [Int.fmod_eq_emod_of_nonneg _ (by omega)]
      have : x = -(x.natAbs : Int) := by omega
      conv => rhs; rw [this]
      rw [Int.natCast_emod, ← Int.zero_sub, Int.sub_emod, Int.emod_emod, ← Int.sub_emod, Int.zero_sub]
    · rw [if_neg (by simpa using hx0)]
      refine EW_name rfl ?_
      congr 1
      have : x = (x.natAbs : Int) := by omega
      conv => rhs; rw [this]
      rw [Int.natCast_emod]
end Mine
end F4_part
section F5_part
open PySem PySem.Calls PyProof.Rows PySem.W
namespace Mine
variable {prog : Program} {w : World} {base : Heap} {mg : Str → Option Value} {ln : Option Addr}

theorem mulL {a b : Int} (h : a.natAbs < 2 ^ 60) : IntMulOk a b := .of_left (intBits_le_64 (by omega) (by omega))
theorem mulR {a b : Int} (h : b.natAbs < 2 ^ 60) : IntMulOk a b := .of_right (intBits_le_64 (by omega) (by omega))

noncomputable def isP (n : Nat) : Bool := decide (2 ≤ n) && (List.range' 2 (n - 2)).all fun d => n % d != 0
theorem isP_iff {n : Nat} : isP n = true ↔ 2 ≤ n ∧ ∀ d, 2 ≤ d → d < n → n % d ≠ 0 := by
  unfold isP
  simp only [Bool.and_eq_true, decide_eq_true_eq, List.all_eq_true, List.mem_range', bne_iff_ne, ne_eq]
  constructor
  · rintro ⟨h, q⟩
    exact ⟨h, fun d h1 h2 => q d ⟨d - 2, by omega, by omega⟩⟩
  · rintro ⟨h, q⟩
    refine ⟨h, ?_⟩
    rintro d ⟨i, hi, rfl⟩
    exact q _ (by omega) (by omega)
theorem isP_sqrt {n d : Nat} (h : ∀ e, 2 ≤ e → e < d → n % e ≠ 0) (hd : n < d * d) (h2 : 2 ≤ n) : isP n = true := by
  refine isP_iff.mpr ⟨h2, fun e h3 h4 h5 => ?_⟩
  by_cases he : e < d
  · exact h e h3 he h5
  · obtain ⟨k, rfl⟩ := Nat.dvd_of_mod_eq_zero h5
    have k0 : k ≠ 0 := by rintro rfl; simp at h2
    have k1 : k ≠ 1 := by rintro rfl; simp at h4
    refine h k (by omega) ?_ (Nat.mul_mod_left e k)
    refine Nat.lt_of_not_le fun q => ?_
    have := Nat.mul_le_mul (Nat.le_of_not_lt he) q
    omega
theorem isP_not {n d : Nat} (h1 : 2 ≤ d) (h2 : d < n) (h3 : n % d = 0) : isP n = false := by
  cases e : isP n with
  | false => rfl
  | true => exact absurd h3 ((isP_iff.mp e).2 d h1 h2)

theorem is_plain_prime_ok (F : FnAt base mg 12) (G : Glb base mg) {p : Nat} (hp : p < 2 ^ 30) :
    Con prog w base mg ln "is_plain_prime" 1 [.int p] fun t => t = .bool (isP p) := by
  obtain ⟨fa, o, pm, cd, doc, hm, ho, hd, hc⟩ := F.f
  refine ⟨fa, hm, ⟨o, _, ho, hd⟩, callW_def (names := ["p"]) ho hd G.lim hc (fun vs h => ?_) rfl (by rfl) fun A L R Lo => ?_⟩
  · obtain ⟨x, rfl⟩ := len1 h; rfl
  refine SWs_cons (SW_if (TW_cmp (EW_name rfl (EW_int (Op_lt ⟨_, rfl, ?_⟩)))))
  by_cases h2 : p < 2
  · rw [if_pos (by simp; omega)]
    refine SWs_cons (SW_ret (EW_bool ?_))
    have : isP p = false := by unfold isP; rw [decide_eq_false (by omega)]; rfl
    rw [this]
  · rw [if_neg (by simp; omega)]
    refine SWs_nil (SWs_cons (SW_asg (.inl ⟨rfl, rfl⟩) (EW_int ?_)))
    refine SWs_cons (SW_while (n := p) (σ0 := [vI "p" p, vI "d" (2 : Nat)]) (fun m σ => ∃ d : Nat, σ = [vI "p" p, vI "d" d] ∧ 2 ≤ d ∧ d ≤ p + 2 ∧ m = p + 2 - d ∧ ∀ e, 2 ≤ e → e < d → p % e ≠ 0)
      (Sg.le_cons rfl (Sg.le_cons rfl Sg.le_nil)) ⟨2, rfl, by omega, by omega, by omega, fun e h1 h2 => by omega⟩ ?_)
    rintro m σ ⟨d, rfl, hd2, hdp, rfl, hJ⟩
    refine TW_cmp (EW_bin (EW_name rfl (EW_name rfl (Op_mul (EW_name rfl (Op_le ⟨_, rfl, ?_⟩)) (mulL (by omega))))))
    by_cases hdd : d * d ≤ p
    · have hz : (d : Int) * d ≤ p := by exact_mod_cast hdd
      rw [if_pos (by simpa using hz)]
      have hlt : d ≤ p := Nat.le_trans (Nat.le_mul_self d) hdd
      have hlt2 : d < p := by
        have := Nat.mul_le_mul_right d hd2
        omega
      refine SWs_cons (SW_if (TW_cmp (EW_bin (EW_name rfl (EW_name rfl (Op_mod ⟨by omega, EW_int (Op_eq ⟨_, rfl, ?_⟩)⟩))))))
      rw [fmod_nat]
      by_cases hm0 : p % d = 0
      · rw [if_pos (by simp only [beq_iff_eq]; omega)]
        refine SWs_cons (SW_ret (EW_bool ?_))
        rw [isP_not hd2 hlt2 hm0]
      · rw [if_neg (by simp only [beq_iff_eq]; omega)]
        refine SWs_nil (SWs_cons (SW_aug (.inl ⟨rfl, rfl⟩) rfl (EW_int (Op_iadd ?_))))
        refine SWs_nil ⟨_, [vI "p" p, vI "d" ((d + 1 : Nat) : Int)], ?_, Sg.le_cons rfl (Sg.le_cons rfl Sg.le_nil), d + 1, rfl, by omega, by omega, rfl, fun e h1 h2 => ?_⟩
        · omega
        · by_cases he : e = d
          · subst he; exact hm0
          · exact hJ e h1 (by omega)
    · have hz : ¬ (d : Int) * d ≤ p := by exact_mod_cast hdd
      rw [if_neg (by simpa using hz)]
      refine SWs_cons (SW_ret (EW_bool ?_))
      rw [isP_sqrt hJ (by omega) (by omega)]

/-- r is the least good number behind p -/
noncomputable def Least (good : Nat → Bool) (p r : Nat) : Prop := p < r ∧ good r = true ∧ ∀ e, p < e → e < r → good e = false
theorem Least.uniq {good p r r'} (a : Least good p r) (b : Least good p r') : r = r' := by
  rcases Nat.lt_trichotomy r r' with h | h | h
  · have := b.2.2 r a.1 h; rw [a.2.1] at this; cases this
  · exact h
  · have := a.2.2 r' b.1 h; rw [b.2.1] at this; cases this

theorem next_plain_prime_ok (F12 : FnAt base mg 12) (F : FnAt base mg 13) (G : Glb base mg) {p q : Nat} (hq : p < q) (hq2 : isP q = true) (hq3 : q < 2 ^ 29) :
    Con prog w base mg ln "next_plain_prime" 2 [.int p] fun t => ∃ r : Nat, t = .int r ∧ Least isP p r := by
  obtain ⟨fa, o, pm, cd, doc, hm, ho, hd, hc⟩ := F.f
  refine ⟨fa, hm, ⟨o, _, ho, hd⟩, callW_def (names := ["p"]) ho hd G.lim hc (fun vs h => ?_) rfl (by rfl) fun A L R Lo => ?_⟩
  · obtain ⟨x, rfl⟩ := len1 h; rfl
  refine SWs_cons (SW_aug (.inl ⟨rfl, rfl⟩) rfl (EW_int (Op_iadd ?_)))
  refine SWs_cons (SW_while (n := q - (p + 1)) (σ0 := [vI "p" ((p + 1 : Nat) : Int)]) (fun m σ => ∃ r : Nat, σ = [vI "p" r] ∧ p < r ∧ r ≤ q ∧ m = q - r ∧ ∀ e, p < e → e < r → isP e = false)
    (Sg.le_cons rfl Sg.le_nil) ⟨p + 1, rfl, by omega, by omega, rfl, fun e h1 h2 => by omega⟩ ?_)
  rintro m σ ⟨r, rfl, h1, h2, rfl, hJ⟩
  refine TW_not (TW_plain (EW_fn G F12 (k := 1) R (EsW_cons (EW_name rfl (EsW_nil ⟨_, is_plain_prime_ok F12 G (by omega), ?_⟩)))))
  rintro t rfl
  refine Tr_bool ?_
  cases hr : isP r with
  | true =>
    rw [if_neg (by decide)]
    exact SWs_cons (SW_ret (EW_name rfl ⟨r, rfl, h1, hr, hJ⟩))
  | false =>
    rw [if_pos (by decide)]
    have hne : r ≠ q := by rintro rfl; rw [hr] at hq2; cases hq2
    refine SWs_cons (SW_aug (.inl ⟨rfl, rfl⟩) rfl (EW_int (Op_iadd ?_)))
    refine SWs_nil ⟨_, [vI "p" ((r + 1 : Nat) : Int)], ?_, Sg.le_cons rfl Sg.le_nil, r + 1, rfl, by omega, by omega, rfl, fun e h3 h4 => ?_⟩
    · omega
    · by_cases he : e = r
      · subst he; exact hr
      · exact hJ e h3 (by omega)

noncomputable def goodP (number : Int) (r : Nat) : Bool := isP r && number % r != 0
theorem law_prime_behind_ok (F : FnAt base mg 28) (G : Glb base mg) {p q : Nat} {number : Int} (hq : p < q) (hq2 : goodP number q = true) (hq3 : q < 5000) :
    Con prog w base mg ln "_law_prime_behind" 1 [.int p, .int number] fun t => ∃ r : Nat, t = .int r ∧ Least (goodP number) p r := by
  obtain ⟨fa, o, pm, cd, doc, hm, ho, hd, hc⟩ := F.f
  refine ⟨fa, hm, ⟨o, _, ho, hd⟩, callW_def (names := ["first", "number"]) ho hd G.lim hc (fun vs h => ?_) rfl (by rfl) fun A L R Lo => ?_⟩
  · obtain ⟨x, y, rfl⟩ := len2 h; rfl
  refine SWs_cons (SW_asg (.inr ⟨rfl, rfl⟩) (EW_bin (EW_name rfl (EW_int (Op_add ?_)))))
  refine SWs_cons (SW_while (n := q - (p + 1)) (σ0 := [vI "number" number, vI "p" ((p + 1 : Nat) : Int)]) (fun m σ => ∃ r : Nat, σ = [vI "number" number, vI "p" r] ∧ p < r ∧ r ≤ q ∧ m = q - r ∧ ∀ e, p < e → e < r → goodP number e = false)
    (Sg.le_cons rfl (Sg.le_cons rfl Sg.le_nil)) ⟨p + 1, rfl, by omega, by omega, rfl, fun e h1 h2 => by omega⟩ ?_)
  rintro m σ ⟨r, rfl, h1, h2, rfl, hJ⟩
  have stop : goodP number r = true → SWs ⟨prog, w, base, A, envOfC (nmOf (stOf 28)) (scOf (stOf 28)) L fa cd, ln⟩ [vI "number" number, vI "p" r] ((boOf (stOf 28)).drop 2) fun o => match o with | .ret t => ∃ r : Nat, t = .int r ∧ Least (goodP number) p r | .next _ => ∃ r : Nat, AV.none = .int r ∧ Least (goodP number) p r := fun hg =>
    SWs_cons (SW_ret (EW_name rfl ⟨r, rfl, h1, hg, hJ⟩))
  have go : goodP number r = false → SWs ⟨prog, w, base, A, envOfC (nmOf (stOf 28)) (scOf (stOf 28)) L fa cd, ln⟩ [vI "number" number, vI "p" r] (match (boOf (stOf 28))[1]? with | some (Stmt.While _ b _ _) => b | _ => []) fun o => match o with | .next σ3 => ∃ m σ4, m < q - r ∧ Sg.le σ4 σ3 ∧ (∃ r : Nat, σ4 = [vI "number" number, vI "p" r] ∧ p < r ∧ r ≤ q ∧ m = q - r ∧ ∀ e, p < e → e < r → goodP number e = false) | .ret t => ∃ r : Nat, t = .int r ∧ Least (goodP number) p r := fun hg => by
    have hne : r ≠ q := by rintro rfl; rw [hg] at hq2; cases hq2
    refine SWs_cons (SW_asg (.inr ⟨rfl, rfl⟩) (EW_bin (EW_name rfl (EW_int (Op_add ?_)))))
    refine SWs_nil ⟨_, [vI "number" number, vI "p" ((r + 1 : Nat) : Int)], ?_, Sg.le_cons rfl (Sg.le_cons rfl Sg.le_nil), r + 1, rfl, by omega, by omega, rfl, fun e h3 h4 => ?_⟩
    · omega
    · by_cases he : e = r
      · subst he; exact hg
      · exact hJ e h3 (by omega)
  refine TW_or (TW_cmp (EW_comp Lo (CompOk.of rfl (by rfl)) (It_up R.hd (EW_rng2 G (EW_int (EW_name rfl ⟨_, _, rfl, rfl, 2, r, rfl, by omega, by omega, by rw [upL_len]; omega, CompT_filter (List.range' 2 (r - 2)) (fun (i : Nat) => AV.int (i : Int)) (fun (i : Nat) => AV.int (i : Int)) (fun d => r % d == 0) ?_ ?_⟩))))))
  · intro C d Lo2 hdm
    have hd2 : 2 ≤ d := by obtain ⟨i, _, rfl⟩ := List.mem_range'.mp hdm; omega
    refine TgC_name (.inl ⟨rfl, rfl⟩) (.head _) ?_ (by simp)
    refine TW_cmp (EW_bin (EW_name rfl (EW_name rfl (Op_mod ⟨by omega, EW_int (Op_eq ⟨_, rfl, ?_, fun _ => EW_name rfl rfl⟩)⟩))))
    rw [fmod_nat, Bool.eq_iff_iff]
    simp only [beq_iff_eq]; omega
  · refine EW_list (EsW_nil ⟨Nat.zero_le _, ?_⟩)
    have e1 : ∀ l : List Nat, AV.list (l.map fun (i : Nat) => AV.int (i : Int)) = .list ((l.map fun (i : Nat) => (i : Int)).map AV.int) := fun l => by rw [List.map_map]; rfl
    rw [e1]
    refine Op_neL (ms := []) R ⟨_, rfl, ?_⟩
    by_cases hf : (List.range' 2 (r - 2)).filter (fun d => r % d == 0) = []
    · rw [if_neg (by simp [hf])]
      refine TW_or (TW_cmp (EW_name rfl (EW_int (Op_lt ⟨_, rfl, ?_⟩))))
      have hnd : ∀ d, 2 ≤ d → d < r → r % d ≠ 0 := fun d h3 h4 h5 => by
        rw [List.filter_eq_nil_iff] at hf
        exact hf d (List.mem_range'.mpr ⟨d - 2, by omega, by omega⟩) (by simpa using h5)
      by_cases hr2 : r < 2
      · rw [if_pos (by simp; omega)]
        exact go (by unfold goodP; have : isP r = false := by (unfold isP; rw [decide_eq_false (by omega)]; rfl)
                     rw [this]; rfl)
      · rw [if_neg (by simp; omega)]
        have hp : isP r = true := isP_iff.mpr ⟨by omega, hnd⟩
        refine TW_or (TW_cmp (EW_bin (EW_name rfl (EW_name rfl (Op_mod ⟨by omega, EW_int (Op_eq ⟨_, rfl, ?_⟩)⟩)))))
        rw [Int.fmod_eq_emod_of_nonneg _ (by omega)]
        by_cases hn : number % (r : Int) = 0
        · rw [if_pos (by simpa using hn)]
          exact go (by unfold goodP; rw [hn]; simp)
        · rw [if_neg (by simpa using hn)]
          exact TW_orN (stop (by unfold goodP; rw [hp]; simpa using hn))
    · rw [if_pos (by simp [hf])]
      refine go ?_
      obtain ⟨d, hdm⟩ := List.exists_mem_of_ne_nil _ hf
      rw [List.mem_filter, List.mem_range'] at hdm
      obtain ⟨⟨i, hi, rfl⟩, h5⟩ := hdm
      unfold goodP
      rw [isP_not (d := 2 + 1 * i) (by omega) (by omega) (by simpa using h5)]; rfl
end Mine
end F5_part
section F6_part
open PySem PySem.Calls PyProof.Rows PySem.W
namespace Mine
variable {prog : Program} {w : World} {base : Heap} {mg : Str → Option Value} {ln : Option Addr}

theorem dg_lenle {b n : Nat} (hb : 3 ≤ b) (h : n < 2 ^ 60) : (dg b n).length ≤ 20 :=
  dg_len (by omega) 20 n (Nat.lt_of_lt_of_le h (Nat.pow_le_pow_right (by omega) (by omega)))

theorem law_limbs_ok (F : FnAt base mg 21) (G : Glb base mg) {n b : Nat} (hb : 3 ≤ b) (hb2 : b ≤ 8) (hn : n < 2 ^ 120) :
    Con prog w base mg ln "_law_limbs" 1 [.int n, .int b] fun t => t = .list (liN (dg b n)) := by
  obtain ⟨fa, o, pm, cd, doc, hm, ho, hd, hc⟩ := F.f
  refine ⟨fa, hm, ⟨o, _, ho, hd⟩, callW_def (names := ["number", "w"]) ho hd G.lim hc (fun vs h => ?_) rfl (by rfl) fun A L R Lo => ?_⟩
  · obtain ⟨x, y, rfl⟩ := len2 h; rfl
  have hlen : (dg b n).length ≤ 40 := dg_len (by omega) 40 n (Nat.lt_of_lt_of_le hn (Nat.pow_le_pow_right (by omega) (by omega)))
  refine SWs_cons (SW_asgOwn (.inl ⟨rfl, rfl⟩) (EWF_list (EsW_nil ⟨Nat.zero_le _, ?_⟩)))
  refine SWs_cons (SW_while (n := n) (σ0 := [vI "number" n, vI "w" b, vO "found" (liN [])]) (fun m σ => ∃ (acc : List Nat), σ = [vI "number" m, vI "w" b, vO "found" (liN acc)] ∧ acc ++ dg b m = dg b n)
    (Sg.le_cons rfl (Sg.le_cons rfl (Sg.le_cons rfl Sg.le_nil))) ⟨[], rfl, rfl⟩ ?_)
  rintro m σ ⟨acc, rfl, hJ⟩
  refine TW_cmp (EW_name rfl (EW_int (Op_gt ⟨_, rfl, ?_⟩)))
  have e2 : (2 : Int) ^ (b : Int).toNat = ((2 ^ b : Nat) : Int) := by simp
  have p2 : 0 < 2 ^ b := Nat.pow_pos (by decide)
  have hzz : ¬ Builtin.Int.intTooBig (((Builtin.Int.intBits 2 : Nat) : Int) * (b : Int)) = true := by
    have e : Builtin.Int.intBits 2 = 2 := by decide
    rw [e]; unfold Builtin.Int.intTooBig bitsLine; simp; omega
  by_cases hm0 : 0 < m
  · rw [if_pos (by simpa using hm0)]
    refine SWs_cons (SW_append rfl (by rw [← hJ] at hlen; simp [liN] at hlen ⊢; omega) (ownOne rfl) (EW_bin (EW_name rfl (EW_bin (EW_int (EW_name rfl (Op_pow2 (by decide) (by omega) hzz (Op_mod ⟨by rw [e2]; omega, ?_⟩))))))))
    rw [e2, fmod_nat, ← liN_snoc]
    refine SWs_cons (SW_asg (.inl ⟨rfl, rfl⟩) (EW_bin (EW_name rfl (EW_bin (EW_int (EW_name rfl (Op_pow2 (by decide) (by omega) hzz (Op_fdiv (by rw [e2]; omega) (PyProof.noPylong_small ?_) ?_))))))))
    · rw [e2, Int.natAbs_natCast]
      have : 2 ^ b ≤ 2 ^ 8 := Nat.pow_le_pow_right (by omega) hb2
      omega
    rw [e2, fdiv_nat]
    refine SWs_nil ⟨m / 2 ^ b, _, Nat.div_lt_self (by omega) (Nat.one_lt_two_pow (by omega)), Sg.le_trans' (Sg.le_cons rfl (Sg.le_cons rfl (Sg.le_cons rfl Sg.le_nil))) rfl, acc ++ [m % 2 ^ b], rfl, ?_⟩
    rw [← hJ, dg_pos (by omega) hm0]; simp
  · rw [if_neg (by simpa using hm0)]
    have : m = 0 := by omega
    subst this
    refine SWs_cons (SW_retOwn rfl ?_)
    have : acc = dg b n := by rw [← hJ]; simp [dg, dgN]
    rw [this]

theorem enumL_map {α : Type} (f : α → AV) : ∀ (l : List α) (j : Nat), enumL j (l.map f) = (l.zipIdx j).map fun q => .tup [.int (q.2 : Nat), f q.1]
  | [], j => rfl
  | x :: l, j => by simp [enumL, enumL_map f l (j + 1)]
theorem sum_num (b : Nat) : ∀ (l : List Nat) (j : Nat), ((l.zipIdx j).map fun q => ((q.1 : Nat) : Int) * ((2 ^ (b * q.2) : Nat) : Int)).sum = ((2 ^ (b * j) * numOf b l : Nat) : Int)
  | [], j => by simp [numOf]
  | x :: l, j => by
    simp only [List.zipIdx_cons, List.map_cons, List.sum_cons, sum_num b l (j + 1), numOf]
    rw [Nat.mul_add b j 1, Nat.mul_one, Nat.pow_add, Nat.mul_add, ← Nat.mul_assoc]
    push_cast
    rw [Int.mul_comm]
theorem num_ge (b : Nat) : ∀ (l : List Nat) (x : Nat), x ∈ l → x ≤ numOf b l
  | y :: l, x, h => by
    simp only [numOf]
    rcases List.mem_cons.mp h with rfl | h
    · omega
    · have := num_ge b l x h
      have h2 : numOf b l ≤ 2 ^ b * numOf b l := Nat.le_mul_of_pos_left _ (Nat.pow_pos (by decide))
      omega

theorem law_number_ok (F : FnAt base mg 22) (G : Glb base mg) {l : List Nat} {b : Nat} (hb2 : b ≤ 8) (hl : l.length ≤ 100) (hn : numOf b l < 2 ^ 60) :
    Con prog w base mg ln "_law_number" 1 [.list (liN l), .int b] fun t => t = .int (numOf b l) := by
  obtain ⟨fa, o, pm, cd, doc, hm, ho, hd, hc⟩ := F.f
  refine ⟨fa, hm, ⟨o, _, ho, hd⟩, callW_def (names := ["row", "w"]) ho hd G.lim hc (fun vs h => ?_) rfl (by rfl) fun A L R Lo => ?_⟩
  · obtain ⟨x, y, rfl⟩ := len2 h; rfl
  refine SWs_cons (SW_ret (EW_bi G (by decide) (f := .builtin "sum") (by decide +kernel) (.inl ⟨_, rfl⟩) (EsW_cons (EW_comp Lo (CompOk.of rfl (by rfl)) (It_enum G R.hd rfl (EW_name rfl ⟨_, rfl, by rw [enumL_len, liN_len]; omega, ?_⟩))))))
  have e1 := enumL_map (fun (i : Nat) => AV.int (i : Int)) l 0
  have e2 : enumL 0 (liN l) = (l.zipIdx 0).map fun q => .tup [.int (q.2 : Nat), AV.int (q.1 : Int)] := e1
  rw [e2]
  refine CompT_map (l.zipIdx 0) _ (fun q => AV.int (((q.1 : Nat) : Int) * ((2 ^ (b * q.2) : Nat) : Int))) ?_ ?_
  · rintro C ⟨x, i⟩ Lo2 hm
    have hi : i < 100 := by
      have := List.snd_lt_of_mem_zipIdx hm; omega
    have hx : x ≤ numOf b l := num_ge b l x (List.fst_mem_of_mem_zipIdx hm)
    refine TgC_tup (xs := ["at", "limb"]) R.hd rfl ⟨rfl, fun j h1 h2 => ?_⟩ ?_
    · match j, h1 with
      | 0, _ => exact ⟨nameAct_assign, _, .inl ⟨rfl, rfl⟩, .head _⟩
      | 1, _ => exact ⟨nameAct_assign, _, .inl ⟨rfl, rfl⟩, .head _⟩
    have hbi : b * i ≤ 8 * 100 := Nat.mul_le_mul hb2 (by omega)
    have ebi : (b : Int) * (i : Int) = ((b * i : Nat) : Int) := by push_cast; rfl
    have hzz : ¬ Builtin.Int.intTooBig (((Builtin.Int.intBits 2 : Nat) : Int) * ((b : Int) * (i : Int))) = true := by
      have e : Builtin.Int.intBits 2 = 2 := by decide
      rw [e, ebi]; unfold Builtin.Int.intTooBig bitsLine; simp; omega
    refine EW_bin (EW_name rfl (EW_bin (EW_int (EW_bin (EW_name rfl (EW_name rfl (Op_mul (Op_pow2 (by decide) (by rw [ebi]; omega) hzz (Op_mul ?_ (mulL (by omega)))) (mulL (by omega)))))))))
    rw [ebi, Int.toNat_natCast]; push_cast; rfl
  · refine EsW_nil ?_
    have e3 : (l.zipIdx 0).map (fun q => AV.int (((q.1 : Nat) : Int) * ((2 ^ (b * q.2) : Nat) : Int))) = ((l.zipIdx 0).map fun q => ((q.1 : Nat) : Int) * ((2 ^ (b * q.2) : Nat) : Int)).map AV.int := by rw [List.map_map]; rfl
    rw [e3]
    refine BiW_sum R ?_
    rw [sum_num]; simp

theorem law_product_ok (F21 : FnAt base mg 21) (F22 : FnAt base mg 22) (F : FnAt base mg 23) (G : Glb base mg) {l m : List Nat} {b : Nat} (hb : 3 ≤ b) (hb2 : b ≤ 8) (hl : l.length ≤ 100) (hn : numOf b l < 2 ^ 60) (hl2 : m.length ≤ 100) (hn2 : numOf b m < 2 ^ 60) :
    Con prog w base mg ln "_law_product" 2 [.list (liN l), .list (liN m), .int b] fun t => t = .list (liN (dg b (numOf b l * numOf b m))) := by
  obtain ⟨fa, o, pm, cd, doc, hm, ho, hd, hc⟩ := F.f
  refine ⟨fa, hm, ⟨o, _, ho, hd⟩, callW_def (names := ["one", "other", "w"]) ho hd G.lim hc (fun vs h => ?_) rfl (by rfl) fun A L R Lo => ?_⟩
  · obtain ⟨x, y, z, rfl⟩ := len3 h; rfl
  refine SWs_cons (SW_ret (EW_fn G F21 (k := 1) R (EsW_cons (EW_bin (EW_fn G F22 (k := 1) R (EsW_cons (EW_name rfl (EsW_cons (EW_name rfl (EsW_nil ⟨_, law_number_ok F22 G hb2 hl hn, ?_⟩))))))))))
  rintro t rfl
  refine EW_fn G F22 (k := 1) R (EsW_cons (EW_name rfl (EsW_cons (EW_name rfl (EsW_nil ⟨_, law_number_ok F22 G hb2 hl2 hn2, ?_⟩)))))
  rintro t rfl
  refine Op_mul ?_ (mulL (by omega))
  refine EsW_cons (EW_name rfl (EsW_nil ?_))
  have e : ((numOf b l : Nat) : Int) * ((numOf b m : Nat) : Int) = ((numOf b l * numOf b m : Nat) : Int) := by push_cast; rfl
  rw [e]
  refine ⟨_, law_limbs_ok F21 G hb hb2 ?_, fun t e => e⟩
  calc numOf b l * numOf b m < 2 ^ 60 * 2 ^ 60 := Nat.mul_lt_mul'' hn hn2
    _ = 2 ^ 120 := by decide

noncomputable def rsum (r : List Int) : Nat := (r.map Int.natAbs).sum
noncomputable def bnd (m : List (List Int)) : Nat := m.foldl (fun a r => a * rsum r) 1
theorem rsum_snoc (l : List Int) (x : Int) : rsum (l ++ [x]) = rsum l + x.natAbs := by simp [rsum]
theorem bnd_snoc (m : List (List Int)) (r : List Int) : bnd (m ++ [r]) = bnd m * rsum r := by simp [bnd]

theorem row_bound_ok (F6 : FnAt base mg 6) (F : FnAt base mg 15) (G : Glb base mg) {r : List Int} {b : Nat} (hb : 3 ≤ b) (hb2 : b ≤ 8) (hl : r.length ≤ 20) (hx : ∀ x ∈ r, x.natAbs < 2 ^ 30) :
    Con prog w base mg ln "row_bound" 2 [.list (r.map (sgn b)), .int b] fun t => ∃ l, t = .list (liN l) ∧ numOf b l = rsum r ∧ l.length ≤ 100 := by
  obtain ⟨fa, o, pm, cd, doc, hm, ho, hd, hc⟩ := F.f
  refine ⟨fa, hm, ⟨o, _, ho, hd⟩, callW_def (names := ["row", "w"]) ho hd G.lim hc (fun vs h => ?_) rfl (by rfl) fun A L R Lo => ?_⟩
  · obtain ⟨x, y, rfl⟩ := len2 h; rfl
  refine SWs_cons (SW_asg (.inl ⟨rfl, rfl⟩) (EW_list (EsW_nil ⟨Nat.zero_le _, ?_⟩)))
  refine SWs_cons (SW_for (It_list R.hd (EW_name rfl ⟨_, rfl, fun i σ => ∃ l : List Nat, σ = [vV "row" (.list (r.map (sgn b))), vI "w" b, vV "found" (.list (liN l))] ∧ numOf b l = rsum (r.take i) ∧ l.length ≤ 20 + i, [vV "row" (.list (r.map (sgn b))), vI "w" b, vV "found" (.list (liN []))],
    Sg.le_cons rfl (Sg.le_cons rfl (Sg.le_cons rfl Sg.le_nil)), ⟨[], rfl, rfl, Nat.zero_le _⟩, ?_, ?_⟩)))
  · rintro i t σ et ⟨l, rfl, h1, h2⟩
    have hi : i < r.length := by simpa using (List.getElem?_eq_some_iff.mp et).1
    have e1 : t = sgn b r[i] := by simpa [List.getElem?_eq_getElem hi] using et.symm
    subst e1
    have hxi := hx _ (List.getElem_mem hi)
    refine TgW_name (.inl ⟨rfl, rfl⟩) ?_ (by simp [sgn])
    refine SWs_cons (SW_asg (.inl ⟨rfl, rfl⟩) (EW_fn G F6 (k := 1) R (EsW_cons (EW_name rfl (EsW_cons (EW_sub (EW_name rfl (EW_int (Op_itemT (by decide) (by decide) rfl ?_))))))))) 
    have hdl : (dg b r[i].natAbs).length ≤ 10 := dg_small hb hxi
    refine EsW_cons (EW_name rfl (EsW_nil ⟨_, add_ok F6 G hb hb2 (by omega) (by omega), ?_⟩))
    rintro t ⟨l2, rfl, h3, h4⟩
    refine SWs_nil ⟨[vV "row" (.list (r.map (sgn b))), vI "w" b, vV "found" (.list (liN l2))], Sg.le_cons rfl (Sg.le_cons rfl (Sg.le_cons rfl Sg.le_nil)), l2, rfl, ?_, by omega⟩
    rw [h3, h1, dg_num (by omega), List.take_succ_eq_append_getElem hi, rsum_snoc]
  · rintro σ ⟨l, rfl, h1, h2⟩
    rw [List.length_map] at h1 h2
    rw [List.take_length] at h1
    exact SWs_cons (SW_ret (EW_name rfl ⟨l, rfl, h1, by omega⟩))

theorem det_bound_ok (F6 : FnAt base mg 6) (F15 : FnAt base mg 15) (F21 : FnAt base mg 21) (F22 : FnAt base mg 22) (F23 : FnAt base mg 23) (F : FnAt base mg 16) (G : Glb base mg) {m : List (List Int)} {b : Nat} {fp : Addr} (hfp : mg "_law_product" = some (.ref fp)) (hb : 3 ≤ b) (hb2 : b ≤ 8)
    (hl : ∀ r ∈ m, r.length ≤ 20) (hx : ∀ r ∈ m, ∀ x ∈ r, x.natAbs < 2 ^ 30) (hr : ∀ r ∈ m, rsum r < 2 ^ 60) (hB : ∀ i, bnd (m.take i) < 2 ^ 60) :
    Con prog w base mg ln "det_bound" 3 [.list (m.map fun r => .list (r.map (sgn b))), .int b, .fn fp] fun t => t = .list (liN (dg b (bnd m))) := by
  obtain ⟨fa, o, pm, cd, doc, hm, ho, hd, hc⟩ := F.f
  refine ⟨fa, hm, ⟨o, _, ho, hd⟩, callW_def (names := ["a", "w", "mul"]) ho hd G.lim hc (fun vs h => ?_) rfl (by rfl) fun A L R Lo => ?_⟩
  · obtain ⟨x, y, z, rfl⟩ := len3 h; rfl
  have d1 : dg b 1 = [1] := by
    have : 1 < 2 ^ b := Nat.one_lt_two_pow (by omega)
    rw [dg_pos (by omega) (by omega), Nat.mod_eq_of_lt this, Nat.div_eq_of_lt this]; rfl
  obtain ⟨pa, po, ppm, pcd, pdoc, phm, pho, phd, phc⟩ := F23.f
  have hpa : pa = fp := by
    have h1 : mg "_law_product" = some (.ref pa) := phm
    rw [hfp] at h1; cases h1; rfl
  subst hpa
  refine SWs_cons (SW_asg (.inl ⟨rfl, rfl⟩) (EW_list (EsW_cons (EW_int (EsW_nil ⟨Nat.le_of_ble_eq_true rfl, ?_⟩)))))
  refine SWs_cons (SW_for (It_list R.hd (EW_name rfl ⟨_, rfl, fun i σ => σ = [vV "a" (.list (m.map fun r => .list (r.map (sgn b)))), vI "w" b, vV "mul" (.fn pa), vV "found" (.list (liN (dg b (bnd (m.take i)))))], [vV "a" (.list (m.map fun r => .list (r.map (sgn b)))), vI "w" b, vV "mul" (.fn pa), vV "found" (.list (liN [1]))],
    Sg.le_cons rfl (Sg.le_cons rfl (Sg.le_cons rfl (Sg.le_cons rfl Sg.le_nil))), ?_, ?_, ?_⟩)))
  · dsimp only; rw [List.take_zero, show bnd [] = 1 from rfl, d1]
  · rintro i t σ et rfl
    have hi : i < m.length := by simpa using (List.getElem?_eq_some_iff.mp et).1
    have e1 : t = .list (m[i].map (sgn b)) := by simpa [List.getElem?_eq_getElem hi] using et.symm
    subst e1
    have mem := List.getElem_mem hi
    refine TgW_name (.inl ⟨rfl, rfl⟩) ?_ (by simp)
    refine SWs_cons (SW_asg (.inl ⟨rfl, rfl⟩) (EW_fnV (y := "_law_product") (k := 2) R rfl hfp ⟨po, _, pho, phd⟩ (EsW_cons (EW_name rfl (EsW_cons (EW_fn G F15 (k := 2) R (EsW_cons (EW_name rfl (EsW_cons (EW_name rfl (EsW_nil ⟨_, row_bound_ok F6 F15 G hb hb2 (hl _ mem) (hx _ mem), ?_⟩)))))))))))
    rintro t ⟨l, rfl, h1, h2⟩
    refine EsW_cons (EW_name rfl (EsW_nil ⟨_, law_product_ok F21 F22 F23 G hb hb2 (by have := dg_lenle hb (hB i); omega) (by rw [dg_num (by omega)]; exact hB i) h2 (by rw [h1]; exact hr _ mem), ?_⟩))
    rintro t rfl
    rw [dg_num (by omega), h1, ← bnd_snoc, ← List.take_succ_eq_append_getElem hi]
    exact SWs_nil ⟨_, Sg.le_trans' (Sg.le_cons rfl (Sg.le_cons rfl (Sg.le_cons rfl (Sg.le_cons rfl Sg.le_nil)))) rfl, rfl⟩
  · rintro σ rfl
    rw [List.length_map, List.take_length]
    exact SWs_cons (SW_ret (EW_name rfl rfl))
end Mine
end F6_part
section B16_part
open PySem PySem.Calls PyProof.Rows PySem.W
namespace Mine

abbrev Mx := Nat → Nat → Int
noncomputable def rowT (k : Nat) (g : Nat → Int) : List AV := (List.range k).map fun j => AV.int (g j)
noncomputable def rowsT (n k : Nat) (F : Mx) : List AV := (List.range n).map fun i => AV.list (rowT k (F i))
theorem rowT_len {k g} : (rowT k g).length = k := by simp [rowT]
theorem rowsT_len {n k F} : (rowsT n k F).length = n := by simp [rowsT]
theorem rowT_get {k g j} (h : j < k) : (rowT k g)[j]? = some (.int (g j)) := by simp [rowT, h]
theorem rowsT_get {n k F i} (h : i < n) : (rowsT n k F)[i]? = some (.list (rowT k (F i))) := by simp [rowsT, h]
theorem rowT_congr {k g g'} (h : ∀ j, j < k → g j = g' j) : rowT k g = rowT k g' := by
  unfold rowT
  exact List.map_congr_left fun j m => by rw [h j (List.mem_range.mp m)]
theorem rowsT_congr {n k} {F F' : Mx} (h : ∀ i j, i < n → j < k → F i j = F' i j) : rowsT n k F = rowsT n k F' := by
  unfold rowsT
  exact List.map_congr_left fun i m => by rw [rowT_congr fun j hj => h i j (List.mem_range.mp m) hj]
noncomputable def putF (F : Mx) (i : Nat) (g : Nat → Int) : Mx := fun r => if r = i then g else F r
theorem rowsT_set {n k F i g} : (rowsT n k F).set i (.list (rowT k g)) = rowsT n k (putF F i g) := by
  unfold rowsT
  refine List.ext_getElem (by simp) fun j h1 h2 => ?_
  simp only [List.length_set, List.length_map, List.length_range] at h1
  rw [List.getElem_set]
  simp only [List.getElem_map, List.getElem_range, putF]
  by_cases e : i = j
  · subst e; simp
  · rw [if_neg e, if_neg (fun q => e q.symm)]

section
variable {prog : Program} {w : World} {A : Around} {E : Value → Shared → Prop} {s : Shared}
theorem subTailG {value slice : Expr} {o i : Value} {T id : String} {Q : Value → Shared → Prop} (hT : s.TypeIs o T)
    (hl : typeLookup (.type T) "__getitem__" = pure (some (.builtin id))) (h : wpAny (model prog w) A (getItem o i) Q E s)
    (hs : subscripted slice false o i = operate [o, i] (getItem o i)) : wpAny (model prog w) A (subscriptTail value slice o i) Q E s := by
  unfold subscriptTail
  refine wpAny_bind ?_
  rw [getitemInPython_of_ne hT.not_modules]
  refine wpAny_bind (wpAny_specialOf hT hl ?_)
  have fin : wpAny (model prog w) A (subscripted slice false o i) (fun r s₃ => wpAny (model prog w) A (letTemporaryGo value o r >>= fun _ => pure r) Q E s₃) E s := by
    rw [hs]
    exact wpAny_operating (wpAny_mono h (fun r s₃ h₃ => wpAny_bind (wpAny_letTemporaryGo (wpAny_pure h₃))) fun _ _ x => x)
  first
    | exact wpAny_pure (wpAny_bind fin)
    | exact wpAny_bind (wpAny_pure (wpAny_bind fin))
    | exact wpAny_bind fin
end
section
variable {c : Cx} {σ : Sg}
theorem Op_itemG {ts : List AV} {i : Int} {t value slice} {Q : AV → Prop} (h0 : 0 ≤ i) (hi : i < 2 ^ 62) (ht : ts[i.toNat]? = some t) (q : Q t)
    (hs : ∀ a b, subscripted slice false a b = operate [a, b] (getItem a b) := by intro _ _; with_unfolding_all rfl) :
    OpW c σ (subscriptTail value slice) (.list ts) (.int i) Q := fun O X E s v1 v2 I r1 r2 => by
  obtain ⟨a, us, rfl, hx, l, r⟩ := r1.list_inv
  obtain ⟨u, rfl⟩ := r2.int_inv
  obtain ⟨v, hv, rv⟩ := r.getT ht
  exact subTailG l.typeIs list_getitem_lookup (wpAny_getItem_list l h0 (by omega) (by simpa using hv) ⟨.refl, _, rv, q⟩) (hs _ _)
theorem EW_it3 {value slice pos} {P : AV → Prop} (h : EW c σ value fun v => ∃ ts, v = .list ts ∧ EW c σ slice fun t => ∃ i : Nat, t = .int i ∧ i < 2 ^ 60 ∧ ∃ u, ts[i]? = some u ∧ P u)
    (hs : ∀ a b, subscripted slice false a b = operate [a, b] (getItem a b) := by intro _ _; with_unfolding_all rfl) : EW c σ (.Subscript value slice pos) P :=
  EW_sub (EW.mono h fun v ⟨ts, e, h⟩ => e ▸ EW.mono h fun t ⟨i, e, hi, u, hu, p⟩ => e ▸ Op_itemG (by omega) (by omega) (by simpa using hu) p hs)
theorem EW_ent {x px e1 p1 e2 pos pl n k F} {P : AV → Prop} (hg : σ.get x = some (.own pl (rowsT n k F))) (hn : n < 2 ^ 60) (hk : k < 2 ^ 60)
    (h : EW c σ e1 fun t => ∃ i : Nat, t = .int i ∧ i < n ∧ EW c σ e2 fun t' => ∃ j : Nat, t' = .int j ∧ j < k ∧ P (.int (F i j)))
    (hs : ∀ a b, subscripted e1 false a b = operate [a, b] (getItem a b) := by intro _ _; with_unfolding_all rfl) (hl : ∀ o r, letTemporaryGo (.Name x px) o r = pure () := by intro _ _; with_unfolding_all rfl)
    (hs2 : ∀ a b, subscripted e2 false a b = operate [a, b] (getItem a b) := by intro _ _; with_unfolding_all rfl)
    (hd : (x == ("__debug__" : Str)) = false := by decide) (hc : (x == ("__classdict__" : Str)) = false := by decide) : EW c σ (.Subscript (.Subscript (.Name x px) e1 p1) e2 pos) P :=
  EW_it3 (EW_itO hg (EW.mono h fun t ⟨i, e, hi, h2⟩ => ⟨i, e, by omega, _, rowsT_get hi, _, rfl, EW.mono h2 fun t' ⟨j, e', hj, p⟩ => ⟨j, e', by omega, _, rowT_get hj, p⟩⟩) hs hl hd hc) hs2
theorem EW_row {x px e1 p1 pl n k F} {P : AV → Prop} (hg : σ.get x = some (.own pl (rowsT n k F))) (hn : n < 2 ^ 60)
    (h : EW c σ e1 fun t => ∃ i : Nat, t = .int i ∧ i < n ∧ P (.list (rowT k (F i))))
    (hs : ∀ a b, subscripted e1 false a b = operate [a, b] (getItem a b) := by intro _ _; with_unfolding_all rfl) (hl : ∀ o r, letTemporaryGo (.Name x px) o r = pure () := by intro _ _; with_unfolding_all rfl)
    (hd : (x == ("__debug__" : Str)) = false := by decide) (hc : (x == ("__classdict__" : Str)) = false := by decide) : EW c σ (.Subscript (.Name x px) e1 p1) P :=
  EW_itO hg (EW.mono h fun t ⟨i, e, hi, p⟩ => ⟨i, e, by omega, _, rowsT_get hi, p⟩) hs hl hd hc
theorem enumL_row {k g} : enumL 0 (rowT k g) = (List.range k).map fun (j : Nat) => AV.tup [.int (j : Nat), .int (g j)] := by
  unfold rowT
  rw [enumL_map]
  refine List.ext_getElem (by simp) fun i h1 h2 => ?_
  simp
theorem enumL_rows {n k F} : enumL 0 (rowsT n k F) = (List.range n).map fun (i : Nat) => AV.tup [.int (i : Nat), .list (rowT k (F i))] := by
  unfold rowsT
  rw [enumL_map]
  refine List.ext_getElem (by simp) fun i h1 h2 => ?_
  simp
end

theorem slts {env : Env} {names : List Str} (h : (names.all fun x => env.kindOf x == some .local || (env.kindOf x == some .cell && (env.cells.lookup x).isSome)) = true) : ∀ x ∈ names, ∃ b, Slot env x b := fun x m => by
  rw [List.all_eq_true] at h
  have := h x m
  simp only [Bool.or_eq_true, beq_iff_eq, Bool.and_eq_true] at this
  rcases this with q | ⟨q, r⟩
  · exact ⟨_, .inl ⟨q, rfl⟩⟩
  · obtain ⟨b, hb⟩ := Option.isSome_iff_exists.mp r
    exact ⟨b, .inr ⟨q, hb⟩⟩
section
variable {c : Cx} {σ : Sg}
theorem EW_copy {value p pos} {Q : AV → Prop} (h : EW c σ value fun t => ∃ ts, t = .list ts ∧ ts.length ≤ 1000 ∧ Q (.list ts))
    (ht : ∀ o r, letTemporaryGo value o r = pure () := by intro _ _; rfl) : EW c σ (.Subscript value (.Slice none none none p) pos) Q :=
  EW_slice (EW.mono h fun t ⟨ts, e, hl, q⟩ => ⟨ts, e, hl, show _ ∧ _ ∧ _ from ⟨fun _ e => (nomatch e), fun _ e => (nomatch e), q⟩⟩) ht
theorem EW_from {value e p pos} {Q : AV → Prop} (h : EW c σ value fun t => ∃ ts, t = .list ts ∧ ts.length ≤ 1000 ∧ EW c σ e fun u => ∃ i : Nat, u = .int i ∧ Q (.list (ts.drop i)))
    (ht : ∀ o r, letTemporaryGo value o r = pure () := by intro _ _; rfl) : EW c σ (.Subscript value (.Slice (some e) none none p) pos) Q :=
  EW_slice (EW.mono h fun t ⟨ts, e, hl, q⟩ => ⟨ts, e, hl, show EW c σ _ _ from EW.mono q fun u ⟨i, e, q⟩ => ⟨i, e, show _ ∧ _ ∧ _ from ⟨fun a e => (by cases e; omega), fun _ e => (nomatch e), by simpa [cut] using q⟩⟩⟩) ht
theorem EW_upto {value e p pos} {Q : AV → Prop} (h : EW c σ value fun t => ∃ ts, t = .list ts ∧ ts.length ≤ 1000 ∧ EW c σ e fun u => ∃ i : Nat, u = .int i ∧ Q (.list (ts.take i)))
    (ht : ∀ o r, letTemporaryGo value o r = pure () := by intro _ _; rfl) : EW c σ (.Subscript value (.Slice none (some e) none p) pos) Q :=
  EW_slice (EW.mono h fun t ⟨ts, e, hl, q⟩ => ⟨ts, e, hl, show EW c σ _ _ from EW.mono q fun u ⟨i, e, q⟩ => ⟨i, e, show _ ∧ _ ∧ _ from ⟨fun _ e => (nomatch e), fun a e => (by cases e; omega), by simpa [cut] using q⟩⟩⟩) ht
end
/-- the power that undoes -/
noncomputable def bk (p : Nat) (a : Int) : Int := (Builtin.powMod (a % (p : Int)).toNat (p - 2) p : Nat)
/-- the first place from at on that is not nought -/
noncomputable def spots (n : Nat) (F : Mx) (at_ : Nat) : List Nat := (List.range' at_ (n - at_)).filter fun s => F s at_ != 0
noncomputable def swapF (F : Mx) (i j : Nat) : Mx := putF (putF F i (F j)) j (F i)
noncomputable def elimF (p : Nat) (back : Int) (a : Nat) (F : Mx) : Mx := fun r c => if r ≤ a then F r c else (F r c - F r a * back % p * F a c) % p
noncomputable def stepD (p n a : Nat) (F : Mx) (f : Int) : Option (Mx × Int) :=
  match spots n F a with
  | [] => none
  | s :: _ =>
    let F1 := if s = a then F else swapF F a s
    let f1 := if s = a then f else (-f) % p
    some (elimF p (bk p (F1 a a)) a F1, f1 * F1 a a % p)
noncomputable def detGo (p n : Nat) : Nat → Nat → Mx → Int → Int
  | 0, _, _, f => f
  | k + 1, a, F, f => match stepD p n a F f with
    | none => 0
    | some (F', f') => detGo p n k (a + 1) F' f'
noncomputable def detF (p n : Nat) (F : Mx) : Int := detGo p n n 0 F 1
end Mine
end B16_part
section F7_part
open PySem PySem.Calls PyProof.Rows PySem.W
namespace Mine
variable {prog : Program} {w : World} {base : Heap} {mg : Str → Option Value} {ln : Option Addr}

noncomputable def forBody (sts : List Stmt) (i : Nat) : List Stmt := match sts[i]? with | some (Stmt.For _ _ b _ _) => b | some (Stmt.While _ b _ _) => b | _ => []
noncomputable def elimP (p : Nat) (back : Int) (a i : Nat) (F : Mx) : Mx := fun r c => if a < r ∧ r ≤ a + i then (F r c - F r a * back % p * F a c) % p else F r c
theorem rest_bd {p : Nat} (hp : 0 < p) (x : Int) : 0 ≤ x % (p : Int) ∧ x % (p : Int) < p := ⟨Int.emod_nonneg _ (by omega), Int.emod_lt_of_pos _ (by omega)⟩
theorem bk_eq {p : Nat} (hp : 2 ≤ p) (a : Int) : ((Builtin.powMod (a % (p : Int)).toNat ((p : Int) - 2).natAbs (p : Int).natAbs : Nat) : Int) = bk p a := by
  unfold bk
  have e : ((p : Int) - 2).natAbs = p - 2 := by omega
  rw [e, Int.natAbs_natCast]
theorem emodE {p : Nat} (x : Int) : x.fmod (p : Int) = x % (p : Int) := Int.fmod_eq_emod_of_nonneg _ (by omega)
noncomputable def Bd (p n k : Nat) (F : Mx) : Prop := ∀ i j, i < n → j < k → 0 ≤ F i j ∧ F i j < p
theorem liN_spots (l : List Nat) : AV.list (l.map fun (i : Nat) => AV.int (i : Int)) = .list (liN l) := rfl
theorem spots_mem {n F a s} (h : s ∈ spots n F a) : a ≤ s ∧ s < n ∧ F s a ≠ 0 := by
  unfold spots at h
  rw [List.mem_filter, List.mem_range'] at h
  obtain ⟨⟨i, hi, rfl⟩, h2⟩ := h
  exact ⟨by omega, by omega, by simpa using h2⟩

theorem elim_bd {p n k a : Nat} {b : Int} {F : Mx} (hp : 0 < p) (h : Bd p n k F) : Bd p n k (elimF p b a F) := fun i j hi hj => by
  unfold elimF
  split
  · exact h i j hi hj
  · exact rest_bd hp _
theorem put_bd {p n k i : Nat} {g : Nat → Int} {F : Mx} (h : Bd p n k F) (hg : ∀ j, j < k → 0 ≤ g j ∧ g j < p) : Bd p n k (putF F i g) := fun r c hr hc => by
  unfold putF
  split
  · exact hg c hc
  · exact h r c hr hc
theorem swap_bd {p n k i j : Nat} {F : Mx} (h : Bd p n k F) (hi : i < n) (hj : j < n) : Bd p n k (swapF F i j) :=
  put_bd (put_bd h fun c hc => h j c hj hc) fun c hc => h i c hi hc

theorem det_rest_ok (F : FnAt base mg 14) (G : Glb base mg) {p n : Nat} {F0 : Mx} (hp : 2 ≤ p) (hp2 : p < 2 ^ 20) (hn : n ≤ 1000) (hF0 : Bd p n n F0) :
    Con prog w base mg ln "det_rest" 1 [.list (rowsT n n F0), .int p] fun t => t = .int (detF p n F0) := by
  obtain ⟨fa, o, pm, cd, doc, hm, ho, hd, hc⟩ := F.f
  refine ⟨fa, hm, ⟨o, _, ho, hd⟩, callW_def (names := ["rows", "p"]) ho hd G.lim hc (fun vs h => ?_) rfl (by rfl) fun A L R Lo => ?_⟩
  · obtain ⟨x, y, rfl⟩ := len2 h; rfl
  have hp0 : 0 < p := by omega
  -- behind the swap
  have tail : ∀ (a : Nat) (F : Mx) (f : Int) (pl : Bool) (σr : Sg), Bd p n n F → a < n → 0 ≤ f → f ≤ p →
      SWs ⟨prog, w, base, A, envOfC (nmOf (stOf 14)) (scOf (stOf 14)) L fa cd, ln⟩ [vI "p" p, ("rows", .own pl (rowsT n n F)), vI "found" f, vI "at" a] ((forBody (boOf (stOf 14)) 1).drop 3)
        fun o => match o with | .next σ3 => ∃ pl', Sg.le [vI "p" p, ("rows", .own pl' (rowsT n n (elimF p (bk p (F a a)) a F))), vI "found" (f * F a a % p)] σ3 | .ret t => False := by
    intro a F f pl σr hF ha hf hf2
    have hk : n < 2 ^ 60 := by omega
    have haa := hF a a ha ha
    refine SWs_cons (SW_asg (.inl ⟨rfl, rfl⟩) (EW_bin (EW_bin (EW_name rfl (EW_ent rfl hk hk (EW_name rfl ⟨_, rfl, ha, EW_name rfl ⟨_, rfl, ha, Op_mul (EW_name rfl (Op_mod ⟨by omega, ?_⟩)) (mulL (by omega))⟩⟩))))))
    rw [emodE]
    refine SWs_cons (SW_asg (.inl ⟨rfl, rfl⟩) (EW_bi G (by decide) (f := .builtin "pow") (by decide +kernel) (.inl ⟨_, rfl⟩) (EsW_cons (EW_ent rfl hk hk (EW_name rfl ⟨_, rfl, ha, EW_name rfl ⟨_, rfl, ha, EsW_cons (EW_bin (EW_name rfl (EW_int (Op_sub (EsW_cons (EW_name rfl (EsW_nil (BiW_pow (by omega) (by omega) ?_)))))))) ⟩⟩)))))
    rw [bk_eq hp]
    refine SWs_cons (SW_for (It_up R.hd (EW_rng2 G (EW_bin (EW_name rfl (EW_int (Op_add (EW_lenOwn G rfl rfl (by rw [rowsT_len]; omega) ⟨((a + 1 : Nat) : Int), ((n : Nat) : Int), by push_cast; rfl, by rw [rowsT_len], a + 1, n, rfl, by omega, by omega, fun i σ => ∃ pl, σ = [vI "p" p, ("rows", .own pl (rowsT n n (elimP p (bk p (F a a)) a i F))), vI "found" (f * F a a % p), vI "at" a, vI "back" (bk p (F a a))],
      [vI "p" p, ("rows", .own pl (rowsT n n F)), vI "found" (f * F a a % p), vI "at" a, vI "back" (bk p (F a a))], Sg.le_cons rfl (Sg.le_cons rfl (Sg.le_cons rfl (Sg.le_cons rfl (Sg.le_cons rfl Sg.le_nil)))), ⟨pl, ?_⟩, ?_, ?_⟩))))))))
    · have : rowsT n n (elimP p (bk p (F a a)) a 0 F) = rowsT n n F := rowsT_congr fun i j _ _ => by unfold elimP; rw [if_neg (by omega)]
      rw [this]
    · rintro i t σ et ⟨pl, rfl⟩
      obtain ⟨hi, rfl⟩ := upL_get et
      have hs : a + 1 + i < n := by omega
      have hrow : ∀ c, elimP p (bk p (F a a)) a i F (a + 1 + i) c = F (a + 1 + i) c := fun c => by unfold elimP; rw [if_neg (by omega)]
      have hpiv : ∀ c, elimP p (bk p (F a a)) a i F a c = F a c := fun c => by unfold elimP; rw [if_neg (by omega)]
      have hsa := hF (a + 1 + i) a hs ha
      refine TgW_name (.inl ⟨rfl, rfl⟩) ?_ (by simp)
      refine SWs_cons (SW_asg (.inr ⟨rfl, rfl⟩) (EW_bin (EW_bin (EW_ent rfl hk hk (EW_name rfl ⟨_, rfl, hs, EW_name rfl ⟨_, rfl, ha, EW_name rfl (Op_mul (EW_name rfl (Op_mod ⟨by omega, ?_⟩)) (mulL ?_))⟩⟩)))))
      rotate_left
      · rw [hrow]; omega
      rw [emodE, hrow]
      have hpart := rest_bd hp0 (F (a + 1 + i) a * bk p (F a a))
      generalize hP : F (a + 1 + i) a * bk p (F a a) % (p : Int) = part at hpart
      refine SWs_cons (SW_asgSub rfl (ownOne rfl) (EW_comp Lo (CompOk.of rfl (by rfl)) (It_enum G R.hd rfl (EW_row rfl hk (EW_name rfl ⟨_, rfl, hs, _, rfl, by rw [enumL_len, rowT_len]; omega, ?_⟩)))))
      rw [enumL_row]
      refine CompT_map _ _ (fun (j : Nat) => AV.int ((F (a + 1 + i) j - part * F a j) % p)) ?_ ?_
      · intro C j Lo2 hjm
        have hj : j < n := List.mem_range.mp hjm
        refine TgC_tup (xs := ["n", "one"]) R.hd rfl ⟨rfl, fun j h1 h2 => ?_⟩ ?_
        · match j, h1 with
          | 0, _ => exact ⟨nameAct_assign, _, .inl ⟨rfl, rfl⟩, .head _⟩
          | 1, _ => exact ⟨nameAct_assign, _, .inl ⟨rfl, rfl⟩, .head _⟩
        refine EW_bin (EW_bin (EW_name rfl (EW_bin (EW_name rfl (EW_ent (n := n) (k := n) rfl hk hk (EW_name rfl ⟨_, rfl, ha, EW_name rfl ⟨_, rfl, hj, Op_mul (Op_sub (EW_name rfl (Op_mod ⟨by omega, ?_⟩))) (mulL (by omega))⟩⟩))))))
        rw [emodE, hrow, hpiv]
      · refine EW_name rfl ⟨_, rfl, by omega, by rw [rowsT_len]; omega, by rw [rowsT_len]; omega, ?_⟩
        have e1 : (List.range n).map (fun (j : Nat) => AV.int ((F (a + 1 + i) j - part * F a j) % p)) = rowT n fun j => (F (a + 1 + i) j - part * F a j) % p := rfl
        rw [e1, Int.toNat_natCast, rowsT_set]
        have e2 : rowsT n n (putF (elimP p (bk p (F a a)) a i F) (a + 1 + i) fun j => (F (a + 1 + i) j - part * F a j) % p) = rowsT n n (elimP p (bk p (F a a)) a (i + 1) F) := by
          refine rowsT_congr fun r c hr hc => ?_
          unfold putF elimP
          by_cases e : r = a + 1 + i
          · subst e; rw [if_pos rfl, if_pos (by omega), hP]
          · rw [if_neg e]
            by_cases e3 : a < r ∧ r ≤ a + i
            · rw [if_pos e3, if_pos (by omega)]
            · rw [if_neg e3, if_neg (by omega)]
        rw [e2]
        exact SWs_nil ⟨_, Sg.le_trans' (Sg.le_cons rfl (Sg.le_cons rfl (Sg.le_cons rfl (Sg.le_cons rfl (Sg.le_cons rfl Sg.le_nil))))) rfl, false, rfl⟩
    · rintro σ ⟨pl, rfl⟩
      rw [upL_len]
      refine SWs_nil ⟨pl, ?_⟩
      have e2 : rowsT n n (elimP p (bk p (F a a)) a (n - (a + 1)) F) = rowsT n n (elimF p (bk p (F a a)) a F) := by
        refine rowsT_congr fun r c hr hc => ?_
        unfold elimP elimF
        by_cases e : r ≤ a
        · rw [if_neg (by omega), if_pos e]
        · rw [if_pos (by omega), if_neg e]
      rw [e2]
      exact Sg.le_cons rfl (Sg.le_cons rfl (Sg.le_cons rfl Sg.le_nil))
  refine SWs_cons (SW_tupOwn (names := ["rows", "found"]) R.hd (slts rfl) (hacts := ⟨rfl, fun i h1 h2 => by match i, h1 with | 0, _ => exact nameAct_assign | 1, _ => exact nameAct_assign⟩) (EWF_comp Lo (CompOk.of rfl (by rfl)) (It_list R.hd (EW_name rfl ⟨_, rfl, by rw [rowsT_len]; omega, CompT_map (List.range n) (fun i => AV.list (rowT n (F0 i))) (fun i => AV.list (rowT n (F0 i))) ?_ ?_⟩))))
  · intro C i Lo2 him
    refine TgC_name (.inl ⟨rfl, rfl⟩) (.head _) ?_ (by simp)
    exact EW_copy (EW_name rfl ⟨_, rfl, by rw [rowT_len]; omega, rfl⟩)
  refine EsW_cons (EW_int (EsW_nil ⟨Nat.le_of_ble_eq_true rfl, rfl, ?_⟩))
  have hk : n < 2 ^ 60 := by omega
  refine SWs_cons (SW_for (It_up R.hd (EW_rng1 G (EW_lenOwn G rfl rfl (by simp; omega) ⟨n, by simp, _, _, rfl, by omega, by omega, fun i σ => ∃ pl F f, σ = [vI "p" p, ("rows", .own pl (rowsT n n F)), vI "found" f] ∧ Bd p n n F ∧ 0 ≤ f ∧ f ≤ p ∧ detGo p n (n - i) i F f = detF p n F0,
    [vI "p" p, ("rows", .own true (rowsT n n F0)), vI "found" 1], Sg.le_cons rfl (Sg.le_cons rfl (Sg.le_cons rfl Sg.le_nil)), ⟨true, F0, 1, rfl, hF0, by omega, by omega, rfl⟩, ?_, ?_⟩))))
  · rintro i t σ et ⟨pl, F, f, rfl, hF, hf, hf2, hJ⟩
    obtain ⟨hi, rfl⟩ := upL_get et
    rw [Nat.sub_zero] at hi
    simp only [Nat.zero_add]
    refine TgW_name (.inr ⟨rfl, rfl⟩) ?_ (by simp)
    have eN : n - i = (n - (i + 1)) + 1 := by omega
    rw [eN] at hJ
    unfold detGo stepD at hJ
    refine SWs_cons (SW_asgCompV rfl (CompOk.of rfl (by rfl)) rfl (It_up R.hd (EW_rng2 G (EW_name rfl (EW_lenOwn G rfl rfl (by rw [rowsT_len]; omega) ⟨((i : Nat) : Int), ((n : Nat) : Int), rfl, by rw [rowsT_len], i, n, rfl, by omega, by omega, by rw [upL_len]; omega, CompT_filter (List.range' i (n - i)) (fun (s : Nat) => AV.int (s : Int)) (fun (s : Nat) => AV.int (s : Int)) (fun s => F s i != 0) ?_ ?_⟩)))))
    · intro C s Lo2 hsm
      have hs : s < n := by obtain ⟨j, hj, rfl⟩ := List.mem_range'.mp hsm; omega
      refine TgC_name (.inl ⟨rfl, rfl⟩) (.head _) ?_ (by simp)
      exact TW_cmp (EW_ent (n := n) (k := n) rfl hk hk (EW_name rfl ⟨_, rfl, hs, EW_name rfl ⟨_, rfl, hi, EW_int (Op_ne ⟨_, rfl, rfl, fun _ => EW_name rfl rfl⟩)⟩⟩))
    rw [liN_spots]
    change SWs _ [_, _, _, _, _] _ _
    have hsp : (List.range' i (n - i)).filter (fun s => F s i != 0) = spots n F i := rfl
    rw [hsp]
    generalize hS : spots n F i = S at hJ
    have hSl : (liN S).length ≤ n := by
      rw [liN_len, ← hS]
      unfold spots
      exact Nat.le_trans (List.length_filter_le ..) (by simp)
    refine SWs_cons (SW_if (TW_cmp (EW_lenV G rfl (by omega) (EW_int (Op_eq ⟨_, rfl, ?_⟩)))))
    rw [liN_len]
    cases S with
    | nil =>
      rw [if_pos (by simp)]
      exact SWs_cons (SW_ret (EW_int (by rw [← hJ])))
    | cons s S =>
      rw [if_neg (by simp; omega)]
      obtain ⟨h1, h2, h3⟩ := spots_mem (n := n) (F := F) (a := i) (s := s) (by rw [hS]; exact .head _)
      dsimp only at hJ
      refine SWs_nil (SWs_cons (SW_if (TW_cmp (EW_it rfl (EW_int ⟨0, rfl, by omega, _, liN_get (by simp), EW_name rfl (Op_ne ⟨_, rfl, ?_⟩)⟩)))))
      simp only [List.getElem_cons_zero]
      by_cases hsi : s = i
      · subst hsi
        rw [if_neg (by simp)]
        rw [if_pos rfl, if_pos rfl] at hJ
        refine SWs_nil (SWs_le (σ' := [vI "p" p, ("rows", .own pl (rowsT n n F)), vI "found" f, vI "at" s]) (Sg.le_cons rfl (Sg.le_cons rfl (Sg.le_cons rfl (Sg.le_cons rfl Sg.le_nil)))) (SWs_mono (tail s F f pl [] hF hi hf hf2) ?_))
        rintro (σ3 | t) h
        · obtain ⟨pl', hle⟩ := h
          have := rest_bd hp0 (f * F s s)
          exact ⟨_, hle, pl', _, _, rfl, elim_bd hp0 hF, by omega, by omega, hJ⟩
        · exact h.elim
      · rw [if_pos (by simp; omega)]
        rw [if_neg hsi, if_neg hsi] at hJ
        refine SWs_cons (SW_tup R.hd (EW_tuple (EsW_cons (EW_row rfl hk (EW_it rfl (EW_int ⟨0, rfl, by omega, _, liN_get (by simp), s, rfl, h2, EsW_cons (EW_row rfl hk (EW_name rfl ⟨i, rfl, hi, EsW_nil ⟨Nat.le_of_ble_eq_true rfl, _, rfl, rfl, ?_⟩⟩))⟩))))))
        refine AW_subOwn rfl (ownOne rfl) (EW_name rfl ⟨i, rfl, by omega, by rw [rowsT_len]; omega, by rw [rowsT_len]; omega, ?_⟩)
        rw [Int.toNat_natCast, rowsT_set]
        refine AW_subOwn rfl (ownOne rfl) (EW_it rfl (EW_int ⟨0, rfl, by omega, _, liN_get (by simp), (s : Int), rfl, by omega, by rw [rowsT_len]; omega, by rw [rowsT_len]; omega, ?_⟩))
        rw [Int.toNat_natCast, rowsT_set]
        refine SWs_cons (SW_asg (.inl ⟨rfl, rfl⟩) (EW_bin (EW_neg (EW_name rfl ⟨_, rfl, EW_name rfl (Op_mod ⟨by omega, ?_⟩)⟩))))
        rw [emodE]
        have hf3 := rest_bd hp0 (-f)
        have hF3 : Bd p n n (swapF F i s) := swap_bd hF hi h2
        refine SWs_nil (SWs_le (σ' := [vI "p" p, ("rows", .own false (rowsT n n (swapF F i s))), vI "found" (-f % p), vI "at" i]) (Sg.le_cons rfl (Sg.le_cons rfl (Sg.le_cons rfl (Sg.le_cons rfl Sg.le_nil)))) (SWs_mono (tail i (swapF F i s) (-f % p) false [] hF3 hi (by omega) (by omega)) ?_))
        rintro (σ3 | t) h
        · obtain ⟨pl', hle⟩ := h
          have := rest_bd hp0 (-f % p * swapF F i s i i)
          exact ⟨_, hle, pl', _, _, rfl, elim_bd hp0 hF3, by omega, by omega, hJ⟩
        · exact h.elim
  · rintro σ ⟨pl, F, f, rfl, hF, hf, hf2, hJ⟩
    rw [upL_len, Nat.sub_zero, Nat.sub_self] at hJ
    exact SWs_cons (SW_ret (EW_name rfl (by rw [← hJ]; rfl)))
end Mine
end F7_part
section F8_part
open PySem PySem.Calls PyProof.Rows PySem.W
namespace Mine
variable {prog : Program} {w : World} {base : Heap} {mg : Str → Option Value} {ln : Option Addr}

theorem SW_asgOwnE {c : Cx} {σ : Sg} {Q : Out → Prop} {x px e pos b} (sl : Slot c.env x b) (h : EWF c σ e fun ts => Q (.next ((x, .own true ts) :: σ))) (hs : swapsWith e (some (.Name x px)) pos.line c.env = pure false := by rfl) : SW c σ (.Assign [.Name x px] e pos) Q := fun O X E s L I => by
  refine wpAny_Assign_Name (wpAny_mono (h O X E s I) (fun v s1 h1 => ?_) fun _ _ x => x) hs
  obtain ⟨k, a, us, ts, rfl, hf, hx, pl, r, q⟩ := h1
  have hln : c.ln ≠ some a := fun q => by
    obtain ⟨o, e, _⟩ := (I.li a q).2.1.obj
    rw [hf] at e; cases e
  have I1 : Inv c.base c.env c.ln (a :: O) (a :: X) σ s1.heap := I.own k.kp hf ⟨_, pl.choose_spec, rfl⟩
  refine store1 L I1 (t := .own true ts) ⟨a, us, rfl, .head _, hln, pl.isList, fun _ => pl, r⟩ sl fun h' tk I' sb => ?_
  have p : SPost c (a :: O) (a :: X) s1 (fun _ => True) .next { s1 with heap := h', toks := tk } := SPost.put I1 .refl sl I' sb trivial
  refine ⟨let ⟨h1, t1, e⟩ := k.same; ⟨h', tk, by rw [e]⟩, (KpS.of I k.kp).trans (O' := a :: O) p.2.1 (Gr.own (X := X) hf).ho, a :: O, a :: X, _, I', .own hf, q⟩

noncomputable def wideF (n : Nat) (F : Mx) : Mx := fun i j => if j < n then F i j else if j - n = i then 1 else 0
noncomputable def scaleF (p : Nat) (b : Int) (a : Nat) (F : Mx) : Mx := putF F a fun c => F a c * b % p
noncomputable def redF (p a : Nat) (F : Mx) : Mx := fun r c => if r ≠ a ∧ F r a ≠ 0 then (F r c - F r a * F a c) % p else F r c
noncomputable def redP (p a i : Nat) (F : Mx) : Mx := fun r c => if r < i ∧ r ≠ a ∧ F r a ≠ 0 then (F r c - F r a * F a c) % p else F r c
noncomputable def stepI (p n a : Nat) (F : Mx) : Option Mx :=
  match spots n F a with
  | [] => none
  | s :: _ => some (redF p a (scaleF p (bk p (swapF F a s a a)) a (swapF F a s)))
noncomputable def invGo (p n : Nat) : Nat → Nat → Mx → Option Mx
  | 0, _, F => some F
  | k + 1, a, F => match stepI p n a F with
    | none => none
    | some F' => invGo p n k (a + 1) F'
noncomputable def invF (p n : Nat) (F : Mx) : Option Mx := invGo p n n 0 (wideF n F)
noncomputable def invT (n : Nat) : Option Mx → AV
  | none => .none
  | some W => .list (rowsT n n fun i j => W i (n + j))

theorem row_wide {n i : Nat} {F : Mx} : rowT n (F i) ++ rowT n (fun s => if i = s then 1 else 0) = rowT (n + n) (wideF n F i) := by
  unfold rowT
  refine List.ext_getElem (by simp) fun j h1 h2 => ?_
  simp only [List.length_append, List.length_map, List.length_range] at h1
  rw [List.getElem_append]
  simp only [List.length_map, List.length_range, List.getElem_map, List.getElem_range, wideF]
  by_cases hj : j < n
  · rw [dif_pos hj, if_pos hj]
  · rw [dif_neg hj, if_neg hj]
    by_cases e : i = j - n
    · rw [if_pos e, if_pos e.symm]
    · rw [if_neg e, if_neg (fun q => e q.symm)]
theorem row_drop {n : Nat} {g : Nat → Int} : (rowT (n + n) g).drop n = rowT n fun j => g (n + j) := by
  unfold rowT
  refine List.ext_getElem (by simp) fun j h1 h2 => ?_
  simp
theorem wide_bd {p n : Nat} {F : Mx} (hp : 2 ≤ p) (h : Bd p n n F) : Bd p n (n + n) (wideF n F) := fun i j hi hj => by
  unfold wideF
  by_cases hjn : j < n
  · rw [if_pos hjn]; exact h i j hi hjn
  · rw [if_neg hjn]; split <;> omega
theorem scale_bd {p n k a : Nat} {b : Int} {F : Mx} (hp : 0 < p) (h : Bd p n k F) : Bd p n k (scaleF p b a F) := put_bd h fun c hc => rest_bd hp _
theorem red_bd {p n k a : Nat} {F : Mx} (hp : 0 < p) (h : Bd p n k F) : Bd p n k (redF p a F) := fun i j hi hj => by
  unfold redF
  split
  · exact rest_bd hp _
  · exact h i j hi hj

theorem inverse_rests_ok (F : FnAt base mg 17) (G : Glb base mg) {p n : Nat} {F0 : Mx} (hp : 2 ≤ p) (hp2 : p < 2 ^ 20) (hn : n ≤ 400) (hF0 : Bd p n n F0) :
    Con prog w base mg ln "inverse_rests" 1 [.list (rowsT n n F0), .int p] fun t => t = invT n (invF p n F0) := by
  obtain ⟨fa, o, pm, cd, doc, hm, ho, hd, hc⟩ := F.f
  refine ⟨fa, hm, ⟨o, _, ho, hd⟩, callW_def (names := ["rows", "p"]) ho hd G.lim hc (fun vs h => ?_) rfl (by rfl) fun A L R Lo => ?_⟩
  · obtain ⟨x, y, rfl⟩ := len2 h; rfl
  have hp0 : 0 < p := by omega
  have hk : n < 2 ^ 60 := by omega
  have hk2 : n + n < 2 ^ 60 := by omega
  refine SWs_cons (SW_asg (.inr ⟨rfl, rfl⟩) (EW_lenV G rfl (by rw [rowsT_len]; omega) ?_))
  rw [rowsT_len]
  refine SWs_cons (SW_asgOwnE (.inr ⟨rfl, rfl⟩) (EWF_comp Lo (CompOk.of rfl (by rfl)) (It_enum G R.hd rfl (EW_name rfl ⟨_, rfl, by rw [enumL_len, rowsT_len]; omega, ?_⟩))))
  rw [enumL_rows]
  refine CompT_map _ _ (fun (i : Nat) => AV.list (rowT (n + n) (wideF n F0 i))) ?_ ?_
  · intro C i Lo2 him
    have hi : i < n := List.mem_range.mp him
    refine TgC_tup (xs := ["at", "row"]) R.hd rfl ⟨rfl, fun j h1 h2 => ?_⟩ ?_
    · match j, h1 with
      | 0, _ => exact ⟨nameAct_assign, _, .inr ⟨rfl, rfl⟩, .tail _ (.head _)⟩
      | 1, _ => exact ⟨nameAct_assign, _, .inl ⟨rfl, rfl⟩, .head _⟩
    refine EW_bin (EW_name rfl (EW_comp Lo2 (CompOk.of rfl (by rfl)) (It_up R.hd (EW_rng1 G (EW_name rfl ⟨n, rfl, 0, n, rfl, by omega, by omega, by rw [upL_len]; omega, CompT_map (List.range' 0 (n - 0)) (fun (s : Nat) => AV.int (s : Int)) (fun (s : Nat) => AV.int (if i = s then 1 else 0)) ?_ ?_⟩)))))
    · intro C s Lo3 hsm
      refine TgC_name (.inl ⟨rfl, rfl⟩) (.head _) ?_ (by simp)
      refine EW_if (TW_cmp (EW_name rfl (EW_name rfl (Op_eq ⟨_, rfl, ?_⟩))))
      by_cases e : i = s
      · subst e
        rw [if_pos (by simp)]; exact EW_int (by rw [if_pos rfl])
      · rw [if_neg (by simp; omega)]; exact EW_int (by rw [if_neg e])
    · refine Op_cat (by rw [rowT_len]; simp; omega) ?_
      rw [Nat.sub_zero, ← List.range_eq_range']
      have e1 : (List.range n).map (fun (s : Nat) => AV.int (if i = s then 1 else 0)) = rowT n fun s => if i = s then 1 else 0 := rfl
      rw [e1, row_wide]
  have e1 : (List.range n).map (fun (i : Nat) => AV.list (rowT (n + n) (wideF n F0 i))) = rowsT n (n + n) (wideF n F0) := rfl
  rw [e1]
  refine SWs_cons (SW_for (It_up R.hd (EW_rng1 G (EW_name rfl ⟨n, rfl, _, _, rfl, by omega, by omega, fun i σ => ∃ pl F, σ = [vI "p" p, vI "size" n, ("wide", .own pl (rowsT n (n + n) F))] ∧ Bd p n (n + n) F ∧ invGo p n (n - i) i F = invF p n F0,
    [vI "p" p, vI "size" n, ("wide", .own true (rowsT n (n + n) (wideF n F0)))], Sg.le_cons rfl (Sg.le_cons rfl (Sg.le_cons rfl Sg.le_nil)), ⟨true, _, rfl, wide_bd hp hF0, rfl⟩, ?_, ?_⟩))))
  · rintro a t σ et ⟨pl, F, rfl, hF, hJ⟩
    obtain ⟨ha, rfl⟩ := upL_get et
    rw [Nat.sub_zero] at ha
    simp only [Nat.zero_add]
    have ha2 : a < n + n := by omega
    refine TgW_name (.inr ⟨rfl, rfl⟩) ?_ (by simp)
    have eN : n - a = (n - (a + 1)) + 1 := by omega
    rw [eN] at hJ
    unfold invGo stepI at hJ
    refine SWs_cons (SW_asgCompV rfl (CompOk.of rfl (by rfl)) rfl (It_up R.hd (EW_rng2 G (EW_name rfl (EW_name rfl ⟨((a : Nat) : Int), ((n : Nat) : Int), rfl, rfl, a, n, rfl, by omega, by omega, by rw [upL_len]; omega, CompT_filter (List.range' a (n - a)) (fun (s : Nat) => AV.int (s : Int)) (fun (s : Nat) => AV.int (s : Int)) (fun s => F s a != 0) ?_ ?_⟩)))))
    · intro C s Lo2 hsm
      have hs : s < n := by obtain ⟨j, hj, rfl⟩ := List.mem_range'.mp hsm; omega
      refine TgC_name (.inl ⟨rfl, rfl⟩) (.head _) ?_ (by simp)
      exact TW_cmp (EW_ent (n := n) (k := n + n) rfl hk hk2 (EW_name rfl ⟨_, rfl, hs, EW_name rfl ⟨_, rfl, ha2, EW_int (Op_ne ⟨_, rfl, rfl, fun _ => EW_name rfl rfl⟩)⟩⟩))
    rw [liN_spots]
    have hsp : (List.range' a (n - a)).filter (fun s => F s a != 0) = spots n F a := rfl
    rw [hsp]
    generalize hS : spots n F a = S at hJ
    have hSl : (liN S).length ≤ n := by
      rw [liN_len, ← hS]
      unfold spots
      exact Nat.le_trans (List.length_filter_le ..) (by simp)
    refine SWs_cons (SW_if (TW_cmp (EW_lenV G rfl (by omega) (EW_int (Op_eq ⟨_, rfl, ?_⟩)))))
    rw [liN_len]
    cases S with
    | nil =>
      rw [if_pos (by simp)]
      exact SWs_cons (SW_ret (EW_none (by rw [← hJ]; rfl)))
    | cons s S =>
      rw [if_neg (by simp; omega)]
      obtain ⟨h1, h2, h3⟩ := spots_mem (n := n) (F := F) (a := a) (s := s) (by rw [hS]; exact .head _)
      dsimp only at hJ
      refine SWs_nil (SWs_cons (SW_tup R.hd (EW_tuple (EsW_cons (EW_row rfl hk (EW_it rfl (EW_int ⟨0, rfl, by omega, _, liN_get (by simp), s, rfl, h2, EsW_cons (EW_row rfl hk (EW_name rfl ⟨a, rfl, ha, EsW_nil ⟨Nat.le_of_ble_eq_true rfl, _, rfl, rfl, ?_⟩⟩))⟩)))))))
      refine AW_subOwn rfl (ownOne rfl) (EW_name rfl ⟨a, rfl, by omega, by rw [rowsT_len]; omega, by rw [rowsT_len]; omega, ?_⟩)
      rw [Int.toNat_natCast, rowsT_set]
      refine AW_subOwn rfl (ownOne rfl) (EW_it rfl (EW_int ⟨0, rfl, by omega, _, liN_get (by simp), (s : Int), rfl, by omega, by rw [rowsT_len]; omega, by rw [rowsT_len]; omega, ?_⟩))
      rw [Int.toNat_natCast, rowsT_set]
      change invGo p n (n - (a + 1)) (a + 1) (redF p a (scaleF p (bk p (swapF F a s a a)) a (swapF F a s))) = _ at hJ
      have eW : putF (putF F a (F s)) s (F a) = swapF F a s := rfl
      rw [eW]
      have hF1 : Bd p n (n + n) (swapF F a s) := swap_bd hF ha h2
      generalize swapF F a s = F1 at hF1 hJ
      have haa := hF1 a a ha ha2
      refine SWs_cons (SW_asg (.inr ⟨rfl, rfl⟩) (EW_bi G (by decide) (f := .builtin "pow") (by decide +kernel) (.inl ⟨_, rfl⟩) (EsW_cons (EW_ent (n := n) (k := n + n) rfl hk hk2 (EW_name rfl ⟨_, rfl, ha, EW_name rfl ⟨_, rfl, ha2, EsW_cons (EW_bin (EW_name rfl (EW_int (Op_sub (EsW_cons (EW_name rfl (EsW_nil (BiW_pow (by omega) (by omega) ?_)))))))) ⟩⟩)))))
      rw [bk_eq hp]
      generalize bk p (F1 a a) = b at hJ
      refine SWs_cons (SW_asgSub rfl (ownOne rfl) (EW_comp Lo (CompOk.of rfl (by rfl)) (It_list R.hd (EW_row (n := n) (k := n + n) rfl hk (EW_name rfl ⟨_, rfl, ha, _, rfl, by rw [rowT_len]; omega, CompT_map (List.range (n + n)) (fun (j : Nat) => AV.int (F1 a j)) (fun (j : Nat) => AV.int (F1 a j * b % p)) ?_ ?_⟩)))))
      · intro C j Lo2 hjm
        have hj : j < n + n := List.mem_range.mp hjm
        have hb := hF1 a j ha hj
        refine TgC_name (.inl ⟨rfl, rfl⟩) (.head _) ?_ (by simp)
        exact EW_bin (EW_bin (EW_name rfl (EW_name rfl (Op_mul (EW_name rfl (Op_mod ⟨by omega, by rw [emodE]⟩)) (mulL (by omega))))))
      have e2 : (List.range (n + n)).map (fun (j : Nat) => AV.int (F1 a j * b % p)) = rowT (n + n) fun j => F1 a j * b % p := rfl
      rw [e2]
      refine EW_name rfl ⟨a, rfl, by omega, by rw [rowsT_len]; omega, by rw [rowsT_len]; omega, ?_⟩
      rw [Int.toNat_natCast, rowsT_set]
      have e3 : putF F1 a (fun j => F1 a j * b % p) = scaleF p b a F1 := rfl
      rw [e3]
      have hF2 : Bd p n (n + n) (scaleF p b a F1) := scale_bd hp0 hF1
      generalize scaleF p b a F1 = F2 at hF2 hJ
      refine SWs_cons (SW_for (It_up R.hd (EW_rng1 G (EW_name rfl ⟨n, rfl, _, _, rfl, by omega, by omega, fun i σ => ∃ pl, σ = [vI "p" p, vI "size" n, vI "at" a, ("wide", .own pl (rowsT n (n + n) (redP p a i F2)))],
        [vI "p" p, vI "size" n, vI "at" a, ("wide", .own false (rowsT n (n + n) F2))], Sg.le_cons rfl (Sg.le_cons rfl (Sg.le_cons rfl (Sg.le_cons rfl Sg.le_nil))), ⟨false, ?_⟩, ?_, ?_⟩))))
      · have : redP p a 0 F2 = F2 := by funext r c; unfold redP; rw [if_neg (by omega)]
        rw [this]
      · rintro i t σ et ⟨pl, rfl⟩
        obtain ⟨hi, rfl⟩ := upL_get et
        rw [Nat.sub_zero] at hi
        simp only [Nat.zero_add]
        have hrow : ∀ c, redP p a i F2 i c = F2 i c := fun c => by unfold redP; rw [if_neg (by omega)]
        have hpiv : ∀ c, redP p a i F2 a c = F2 a c := fun c => by unfold redP; rw [if_neg (by omega)]
        have hia := hF2 i a hi ha2
        have hnext : ∀ F', rowsT n (n + n) F' = rowsT n (n + n) (redP p a (i + 1) F2) → ∀ pl' σ3, Sg.le [vI "p" p, vI "size" n, vI "at" a, ("wide", .own pl' (rowsT n (n + n) F'))] σ3 → ∃ σ4, Sg.le σ4 σ3 ∧ ∃ pl, σ4 = [vI "p" p, vI "size" n, vI "at" a, ("wide", .own pl (rowsT n (n + n) (redP p a (i + 1) F2)))] := fun F' e pl' σ3 hle => ⟨_, hle, pl', by rw [e]⟩
        refine TgW_name (.inl ⟨rfl, rfl⟩) ?_ (by simp)
        refine SWs_cons (SW_if (TW_and (TW_cmp (EW_name rfl (EW_name rfl (Op_ne ⟨_, rfl, ?_⟩))))))
        by_cases hia2 : i = a
        · subst hia2
          rw [if_neg (by simp), if_neg (by simp)]
          refine SWs_nil (SWs_nil (hnext (redP p i i F2) (rowsT_congr fun r c hr hc => ?_) pl _ (Sg.le_cons rfl (Sg.le_cons rfl (Sg.le_cons rfl (Sg.le_cons rfl Sg.le_nil))))))
          unfold redP
          by_cases q : r < i ∧ r ≠ i ∧ F2 r i ≠ 0
          · rw [if_pos q, if_pos ⟨by omega, q.2⟩]
          · rw [if_neg q, if_neg (fun z => q ⟨by omega, z.2⟩)]
        · rw [if_pos (by simp; omega)]
          refine TW_and (TW_cmp (EW_ent (n := n) (k := n + n) rfl hk hk2 (EW_name rfl ⟨_, rfl, hi, EW_name rfl ⟨_, rfl, ha2, EW_int (Op_ne ⟨_, rfl, ?_⟩)⟩⟩)))
          rw [hrow]
          by_cases hz : F2 i a = 0
          · rw [if_neg (by simp [hz]), if_neg (by simp)]
            refine SWs_nil (SWs_nil (hnext (redP p a i F2) (rowsT_congr fun r c hr hc => ?_) pl _ (Sg.le_cons rfl (Sg.le_cons rfl (Sg.le_cons rfl (Sg.le_cons rfl Sg.le_nil))))))
            unfold redP
            by_cases e : r = i
            · subst e; rw [if_neg (by omega), if_neg (by intro q; exact q.2.2 hz)]
            · by_cases q : r < i ∧ r ≠ a ∧ F2 r a ≠ 0
              · rw [if_pos q, if_pos ⟨by omega, q.2⟩]
              · rw [if_neg q, if_neg (fun z => q ⟨by omega, z.2⟩)]
          · rw [if_pos (by simp [hz])]
            refine TW_andN ?_
            rw [if_pos rfl]
            refine SWs_cons (SW_asg (.inr ⟨rfl, rfl⟩) (EW_ent (n := n) (k := n + n) rfl hk hk2 (EW_name rfl ⟨_, rfl, hi, EW_name rfl ⟨_, rfl, ha2, ?_⟩⟩)))
            rw [hrow]
            refine SWs_cons (SW_asgSub rfl (ownOne rfl) (EW_comp Lo (CompOk.of rfl (by rfl)) (It_enum G R.hd rfl (EW_row (n := n) (k := n + n) rfl hk (EW_name rfl ⟨_, rfl, hi, _, rfl, by rw [enumL_len, rowT_len]; omega, ?_⟩)))))
            rw [enumL_row]
            refine CompT_map _ _ (fun (j : Nat) => AV.int ((F2 i j - F2 i a * F2 a j) % p)) ?_ ?_
            · intro C j Lo2 hjm
              have hj : j < n + n := List.mem_range.mp hjm
              refine TgC_tup (xs := ["n", "one"]) R.hd rfl ⟨rfl, fun j h1 h2 => ?_⟩ ?_
              · match j, h1 with
                | 0, _ => exact ⟨nameAct_assign, _, .inl ⟨rfl, rfl⟩, .head _⟩
                | 1, _ => exact ⟨nameAct_assign, _, .inl ⟨rfl, rfl⟩, .head _⟩
              refine EW_bin (EW_bin (EW_name rfl (EW_bin (EW_name rfl (EW_ent (n := n) (k := n + n) rfl hk hk2 (EW_name rfl ⟨_, rfl, ha, EW_name rfl ⟨_, rfl, hj, Op_mul (Op_sub (EW_name rfl (Op_mod ⟨by omega, ?_⟩))) (mulL (by omega))⟩⟩))))))
              rw [emodE, hrow, hpiv]
            · refine EW_name rfl ⟨_, rfl, by omega, by rw [rowsT_len]; omega, by rw [rowsT_len]; omega, ?_⟩
              have e4 : (List.range (n + n)).map (fun (j : Nat) => AV.int ((F2 i j - F2 i a * F2 a j) % p)) = rowT (n + n) fun j => (F2 i j - F2 i a * F2 a j) % p := rfl
              rw [e4, Int.toNat_natCast, rowsT_set]
              refine SWs_nil (SWs_nil (hnext _ (rowsT_congr fun r c hr hc => ?_) false _ (Sg.le_cons rfl (Sg.le_cons rfl (Sg.le_cons rfl (Sg.le_cons rfl Sg.le_nil))))))
              unfold putF redP
              by_cases e : r = i
              · subst e; rw [if_pos rfl, if_pos ⟨by omega, hia2, hz⟩]
              · rw [if_neg e]
                by_cases q : r < i ∧ r ≠ a ∧ F2 r a ≠ 0
                · rw [if_pos q, if_pos ⟨by omega, q.2⟩]
                · rw [if_neg q, if_neg (fun z => q ⟨by omega, z.2⟩)]
      · rintro σ ⟨pl, rfl⟩
        rw [upL_len, Nat.sub_zero]
        have e5 : rowsT n (n + n) (redP p a n F2) = rowsT n (n + n) (redF p a F2) := rowsT_congr fun r c hr hc => by
          unfold redP redF
          by_cases q : r ≠ a ∧ F2 r a ≠ 0
          · rw [if_pos q, if_pos ⟨hr, q⟩]
          · rw [if_neg q, if_neg (fun z => q z.2)]
        rw [e5]
        exact SWs_nil ⟨_, Sg.le_cons rfl (Sg.le_cons rfl (Sg.le_cons rfl Sg.le_nil)), pl, _, rfl, red_bd hp0 hF2, hJ⟩
  · rintro σ ⟨pl, F, rfl, hF, hJ⟩
    rw [upL_len, Nat.sub_zero, Nat.sub_self] at hJ
    have hJ' : invF p n F0 = some F := hJ.symm
    rw [hJ']
    refine SWs_freeze (x := "wide") (ts := rowsT n (n + n) F) rfl (ownOne rfl) ?_ (fun _ e => by cases e)
    refine SWs_cons (SW_ret (EW_comp Lo (CompOk.of rfl (by rfl)) (It_list R.hd (EW_name rfl ⟨_, rfl, by rw [rowsT_len]; omega, CompT_map (List.range n) (fun i => AV.list (rowT (n + n) (F i))) (fun i => AV.list (rowT n fun j => F i (n + j))) ?_ rfl⟩))))
    intro C i Lo2 him
    refine TgC_name (.inl ⟨rfl, rfl⟩) (.head _) ?_ (by simp)
    refine EW_from (EW_name rfl ⟨_, rfl, by rw [rowT_len]; omega, EW_name rfl ⟨n, rfl, ?_⟩⟩)
    rw [row_drop]
end Mine
end F8_part
section F9_part
open PySem PySem.Calls PyProof.Rows PySem.W
namespace Mine
variable {prog : Program} {w : World} {base : Heap} {mg : Str → Option Value} {ln : Option Addr}

theorem dg_zero {b : Nat} : dg b 0 = [] := rfl
theorem cmpL_cons (x y : Nat) (a b : List Nat) : cmpL (x :: a) (y :: b) = if cmpL a b = 0 then (if x = y then 0 else if x < y then -1 else 1) else cmpL a b := by
  unfold cmpL
  simp only [List.length_cons, Nat.add_right_cancel_iff, Nat.add_lt_add_iff_right, cmpE]
  by_cases h : a.length = b.length
  · simp only [h, if_true]
  · simp only [h, if_false]
    by_cases h2 : a.length < b.length
    · simp [h2]
    · simp [h2]
theorem cmpL_dg {b : Nat} (hb : 1 ≤ b) : ∀ x y : Nat, cmpL (dg b x) (dg b y) = if x = y then 0 else if x < y then -1 else 1 := by
  intro x
  induction x using Nat.strongRecOn with
  | ind x ih =>
    intro y
    have pb : 2 ≤ 2 ^ b := by
      have : 2 ^ 1 ≤ 2 ^ b := Nat.pow_le_pow_right (by omega) hb
      omega
    by_cases hx : x = 0
    · subst hx
      by_cases hy : y = 0
      · subst hy; rfl
      · rw [dg_pos (n := y) hb (by omega), if_neg (by omega), if_pos (by omega)]
        rfl
    · by_cases hy : y = 0
      · subst hy
        rw [dg_pos (n := x) hb (by omega), if_neg (by omega), if_neg (by omega)]
        rfl
      · rw [dg_pos hb (by omega), dg_pos (n := y) hb (by omega), cmpL_cons, ih (x / 2 ^ b) (Nat.div_lt_self (by omega) (by omega))]
        have ex := Nat.div_add_mod x (2 ^ b)
        have ey := Nat.div_add_mod y (2 ^ b)
        have mx := Nat.mod_lt x (show 0 < 2 ^ b by omega)
        have my := Nat.mod_lt y (show 0 < 2 ^ b by omega)
        rcases Nat.lt_trichotomy (x / 2 ^ b) (y / 2 ^ b) with h | h | h
        · have h3 : 2 ^ b * (x / 2 ^ b + 1) ≤ 2 ^ b * (y / 2 ^ b) := Nat.mul_le_mul_left _ h
          rw [Nat.mul_add, Nat.mul_one] at h3
          have hlt : x < y := by omega
          rw [if_neg (by rw [if_neg (by omega), if_pos h]; decide), if_neg (by omega), if_pos h, if_neg (by omega), if_pos hlt]
        · rw [if_pos (by rw [if_pos h])]
          rw [h] at ex
          by_cases h1 : x = y
          · rw [if_pos (by rw [h1]), if_pos h1]
          · rw [if_neg (by omega), if_neg h1]
            by_cases h2 : x < y
            · rw [if_pos (by omega), if_pos h2]
            · rw [if_neg (by omega), if_neg h2]
        · have h3 : 2 ^ b * (y / 2 ^ b + 1) ≤ 2 ^ b * (x / 2 ^ b) := Nat.mul_le_mul_left _ h
          rw [Nat.mul_add, Nat.mul_one] at h3
          have hlt : y < x := by omega
          rw [if_neg (by rw [if_neg (by omega), if_neg (by omega)]; decide), if_neg (by omega), if_neg (by omega), if_neg (by omega), if_neg (by omega)]

/-- the rests of a matrix -/
noncomputable def restF (p : Nat) (F : Mx) : Mx := fun i j => F i j % p
theorem restF_bd {p n k : Nat} {F : Mx} (hp : 0 < p) : Bd p n k (restF p F) := fun i j _ _ => rest_bd hp _
noncomputable def sgnT (b n : Nat) (F : Mx) : AV := .list ((List.range n).map fun i => .list ((List.range n).map fun j => sgn b (F i j)))
noncomputable def listM (n : Nat) (F : Mx) : List (List Int) := (List.range n).map fun i => (List.range n).map (F i)
theorem sgnT_listM {b n F} : AV.list ((listM n F).map fun r => .list (r.map (sgn b))) = sgnT b n F := by
  unfold listM sgnT
  rw [List.map_map]
  congr 1
  refine List.map_congr_left fun i _ => ?_
  simp only [Function.comp, List.map_map]
  rfl
theorem liM_listM {n F} : liM (listM n F) = .list (rowsT n n F) := by
  unfold liM listM liI rowsT rowT
  rw [List.map_map]
  congr 1
  refine List.map_congr_left fun i _ => ?_
  simp only [Function.comp, List.map_map]
  rfl

/-- the primes behind first, and their product -/
structure Chain (first K : Nat) (P pr : Nat → Nat) : Prop where
  p0 : P 0 = first
  pr0 : pr 0 = 1
  ps : ∀ k, k < K → Least isP (P k) (P (k + 1)) ∧ P (k + 1) < 2 ^ 19
  prs : ∀ k, k < K → pr (k + 1) = pr k * P (k + 1)
  bd : ∀ k, k ≤ K → pr k < 2 ^ 59

structure Fns (base : Heap) (mg : Str → Option Value) : Prop where
  F : ∀ i, 4 ≤ i → i ≠ 7 → i ≠ 9 → i ≠ 19 → i < 31 → FnAt base mg i
theorem Fns.at {base mg} (H : Fns base mg) (i : Nat) (h : (decide (4 ≤ i) && decide (i ≠ 7) && decide (i ≠ 9) && decide (i ≠ 19) && decide (i < 31)) = true := by decide) : FnAt base mg i := by
  simp only [Bool.and_eq_true, decide_eq_true_eq] at h
  exact H.F i h.1.1.1.1 h.1.1.1.2 h.1.1.2 h.1.2 h.2

noncomputable def noneUpto (n : Nat) (F : Mx) (P : Nat → Nat) (k : Nat) : Prop := ∀ i, 1 ≤ i → i ≤ k → invF (P i) n (restF (P i) F) = none
noncomputable def liftQ (n : Nat) (F : Mx) (P pr : Nat → Nat) (B K : Nat) : Out → Prop
  | .next _ => ∃ k, k ≤ K ∧ noneUpto n F P k ∧ B < pr k
  | .ret t => ∃ k W, k < K ∧ noneUpto n F P k ∧ pr k ≤ B ∧ invF (P (k + 1)) n (restF (P (k + 1)) F) = some W ∧ t = .tup [.int (P (k + 1)), invT n (some W)]

theorem lift_body (H : Fns base mg) (G : Glb base mg) {n b first K : Nat} {F : Mx} {P pr : Nat → Nat} {fp fa L : Addr} {cd : Value} {A : Around} (hfp : mg "_law_product" = some (.ref fp)) (hb : 3 ≤ b) (hb2 : b ≤ 8) (hn : n ≤ 20)
    (hx : ∀ i j, i < n → j < n → (F i j).natAbs < 2 ^ 30) (hr : ∀ r ∈ listM n F, rsum r < 2 ^ 60) (hB : ∀ i, bnd ((listM n F).take i) < 2 ^ 60) (C : Chain first K P pr) (hK : bnd (listM n F) < pr K)
    (R : Rm A 3) (Lo : Mine.Lo base (envOfC (nmOf (stOf 18)) (scOf (stOf 18)) L fa cd)) :
    SWs ⟨prog, w, base, A, envOfC (nmOf (stOf 18)) (scOf (stOf 18)) L fa cd, ln⟩ (sg0 ["a", "first", "w", "mul"] [sgnT b n F, .int first, .int b, .fn fp]) ((boOf (stOf 18)).take 2) (liftQ n F P pr (bnd (listM n F)) K) := by
  have d1 : dg b 1 = [1] := by
    have : 1 < 2 ^ b := Nat.one_lt_two_pow (by omega)
    rw [dg_pos (by omega) (by omega), Nat.mod_eq_of_lt this, Nat.div_eq_of_lt this]; rfl
  obtain ⟨pa, po, ppm, pcd, pdoc, phm, pho, phd, phc⟩ := (H.at 23).f
  have hpa : pa = fp := by
    have h1 : mg "_law_product" = some (.ref pa) := phm
    rw [hfp] at h1; cases h1; rfl
  subst hpa
  have hbig := hB (listM n F).length
  rw [List.take_length] at hbig
  refine SWs_cons (SW_tup R.hd (EW_tuple (EsW_cons (EW_fn G (H.at 16) (k := 3) R (EsW_cons (EW_name rfl (EsW_cons (EW_name rfl (EsW_cons (EW_name rfl (EsW_nil ?_)))))))))))
  have hdb := det_bound_ok (prog := prog) (w := w) (ln := ln) (H.at 6) (H.at 15) (H.at 21) (H.at 22) (H.at 23) (H.at 16) G (m := listM n F) hfp hb hb2 (fun r hrm => by
    obtain ⟨i, hi, rfl⟩ := List.mem_map.mp hrm
    simp; omega) (fun r hrm x hxm => by
    obtain ⟨i, hi, rfl⟩ := List.mem_map.mp hrm
    obtain ⟨j, hj, rfl⟩ := List.mem_map.mp hxm
    exact hx i j (List.mem_range.mp hi) (List.mem_range.mp hj)) hr hB
  rw [sgnT_listM] at hdb
  refine ⟨_, hdb, ?_⟩
  rintro t rfl
  refine EsW_cons (EW_list (EsW_cons (EW_int (EsW_nil ⟨Nat.le_of_ble_eq_true rfl, EsW_cons (EW_name rfl (EsW_nil ⟨Nat.le_of_ble_eq_true rfl, _, rfl, rfl, ?_⟩))⟩))))
  refine AW_name (.inl ⟨rfl, rfl⟩) (AW_name (.inl ⟨rfl, rfl⟩) (AW_name (.inr ⟨rfl, rfl⟩) ?_))
  refine SWs_cons (SW_while (n := K) (σ0 := [vV "a" (sgnT b n F), vI "w" b, vV "mul" (.fn pa), vV "bound" (.list (liN (dg b (bnd (listM n F))))), vV "product" (.list (liN [1])), vI "p" first])
    (fun m σ => ∃ k, k ≤ K ∧ m = K - k ∧ σ = [vV "a" (sgnT b n F), vI "w" b, vV "mul" (.fn pa), vV "bound" (.list (liN (dg b (bnd (listM n F))))), vV "product" (.list (liN (dg b (pr k)))), vI "p" (P k)] ∧ noneUpto n F P k)
    (Sg.le_cons rfl (Sg.le_cons rfl (Sg.le_cons rfl (Sg.le_cons rfl (Sg.le_cons rfl (Sg.le_cons rfl Sg.le_nil)))))) ⟨0, by omega, by omega, by rw [C.pr0, C.p0, d1], fun i h1 h2 => by omega⟩ ?_)
  rintro m σ ⟨k, hk, rfl, rfl, hno⟩
  have hprk := C.bd k hk
  have lp : (dg b (pr k)).length ≤ 20 := dg_lenle hb (by omega)
  have lbd : (dg b (bnd (listM n F))).length ≤ 20 := dg_lenle hb (by omega)
  refine TW_cmp (EW_fn G (H.at 5) (k := 1) R (EsW_cons (EW_name rfl (EsW_cons (EW_name rfl (EsW_nil ⟨_, compare_ok (H.at 5) G (by omega) (by omega), ?_⟩))))))
  rintro t rfl
  refine EW_int (Op_le ⟨_, rfl, ?_⟩)
  rw [cmpL_dg (by omega)]
  by_cases hle : pr k ≤ bnd (listM n F)
  · have hkK : k < K := by
      rcases Nat.lt_or_ge k K with h | h
      · exact h
      · have : k = K := by omega
        subst this; omega
    obtain ⟨hL, hPb⟩ := C.ps k hkK
    have hP2 := (isP_iff.mp hL.2.1).1
    rw [if_pos (by
      by_cases e : pr k = bnd (listM n F)
      · rw [if_pos e]; decide
      · rw [if_neg e, if_pos (by omega)]; decide)]
    refine SWs_cons (SW_asg (.inr ⟨rfl, rfl⟩) (EW_fn G (H.at 13) (k := 2) R (EsW_cons (EW_name rfl (EsW_nil ⟨_, next_plain_prime_ok (H.at 12) (H.at 13) G hL.1 hL.2.1 (by omega), ?_⟩)))))
    rintro t ⟨r, rfl, hLr⟩
    have er := hLr.uniq hL
    subst er
    refine SWs_cons (SW_asg (.inl ⟨rfl, rfl⟩) (EW_fn G (H.at 17) (k := 1) R (EsW_cons (EW_comp Lo (CompOk.of rfl (by rfl)) (It_list R.hd (EW_name rfl ⟨_, rfl, by simp; omega, CompT_map (List.range n) (fun i => AV.list ((List.range n).map fun j => sgn b (F i j))) (fun i => AV.list (rowT n (restF (P (k + 1)) F i))) ?_ ?_⟩))))))
    · intro C i Lo2 him
      have hi : i < n := List.mem_range.mp him
      refine TgC_name (.inl ⟨rfl, rfl⟩) (.head _) ?_ (by simp)
      refine EW_comp Lo2 (CompOk.of rfl (by rfl)) (It_list R.hd (EW_name rfl ⟨_, rfl, by simp; omega, CompT_map (List.range n) (fun j => sgn b (F i j)) (fun j => AV.int (restF (P (k + 1)) F i j)) ?_ rfl⟩))
      intro C2 j Lo3 hjm
      have hj : j < n := List.mem_range.mp hjm
      refine TgC_name (.inl ⟨rfl, rfl⟩) (.head _) ?_ (by simp [sgn])
      refine EW_fn G (H.at 11) (k := 1) R (EsW_cons (EW_name rfl (EsW_cons (EW_name rfl (EsW_cons (EW_name rfl (EsW_nil ⟨_, rest_plain_ok (H.at 11) G hb hb2 (by omega) (by omega) (hx i j hi hj), fun t e => e⟩)))))))
    · refine EsW_cons (EW_name rfl (EsW_nil ⟨_, inverse_rests_ok (F0 := restF (P (k + 1)) F) (H.at 17) G hP2 (by omega) (by omega) (restF_bd (by omega)), ?_⟩))
      rintro t rfl
      refine SWs_cons (SW_if (TW_cmp (EW_name rfl (EW_none (Op_isnot ⟨_, rfl, ?_⟩)))))
      cases hinv : invF (P (k + 1)) n (restF (P (k + 1)) F) with
      | none =>
        rw [if_neg (by simp [invT, AV.isNone])]
        refine SWs_nil (SWs_cons (SW_asg (.inl ⟨rfl, rfl⟩) (EW_fnV (y := "_law_product") (k := 2) R rfl hfp ⟨po, _, pho, phd⟩ (EsW_cons (EW_name rfl (EsW_cons (EW_fn G (H.at 4) (k := 1) R (EsW_cons (EW_name rfl (EsW_cons (EW_name rfl (EsW_nil ⟨_, nat_of_ok (H.at 4) G hb hb2 ?_, ?_⟩))))))))))))
        · have := dg_lenle (b := b) (n := P (k + 1)) hb (by omega)
          omega
        rintro t rfl
        have lP : (dg b (P (k + 1))).length ≤ 20 := dg_lenle hb (by omega)
        refine EsW_cons (EW_name rfl (EsW_nil ⟨_, law_product_ok (H.at 21) (H.at 22) (H.at 23) G hb hb2 (by omega) (by rw [dg_num (by omega)]; omega) (by omega) (by rw [dg_num (by omega)]; omega), ?_⟩))
        rintro t rfl
        rw [dg_num (by omega), dg_num (by omega), ← C.prs k hkK]
        refine SWs_nil ⟨K - (k + 1), _, by omega, Sg.le_trans' (Sg.le_cons rfl (Sg.le_cons rfl (Sg.le_cons rfl (Sg.le_cons rfl (Sg.le_cons rfl (Sg.le_cons rfl Sg.le_nil)))))) rfl, k + 1, by omega, rfl, rfl, fun i h1 h2 => ?_⟩
        by_cases e : i = k + 1
        · subst e; exact hinv
        · exact hno i h1 (by omega)
      | some W =>
        rw [if_pos (by simp [invT, AV.isNone])]
        exact SWs_cons (SW_ret (EW_tuple (EsW_cons (EW_name rfl (EsW_cons (EW_name rfl (EsW_nil ⟨Nat.le_of_ble_eq_true rfl, k, W, hkK, hno, hle, hinv, rfl⟩)))))))
  · rw [if_neg (by rw [if_neg (by omega), if_neg (by omega)]; decide)]
    exact SWs_nil ⟨k, hk, hno, by omega⟩
end Mine
end F9_part
section F10_part
open PySem PySem.Calls PyProof.Rows PySem.W
namespace Mine
variable {prog : Program} {w : World} {base : Heap} {mg : Str → Option Value} {ln : Option Addr}

noncomputable def sumN : Nat → (Nat → Int) → Int
  | 0, _ => 0
  | k + 1, g => sumN k g + g k
theorem sum_range (n : Nat) (g : Nat → Int) : ((List.range n).map g).sum = sumN n g := by
  induction n with
  | zero => rfl
  | succ n ih => rw [List.range_succ, List.map_append, List.sum_append, ih]; simp [sumN]
noncomputable def minor (F : Mx) (a : Nat) : Mx := fun i j => F (i + 1) (if j < a then j else j + 1)
noncomputable def detL : Nat → Mx → Int
  | 0, _ => 0
  | 1, F => F 0 0
  | n + 2, F => sumN (n + 2) fun a => (if a % 2 = 0 then F 0 a else 0 - F 0 a) * detL (n + 1) (minor F a)

theorem row_minor {n a i : Nat} {F : Mx} (ha : a < n + 2) : (rowT (n + 2) (F (i + 1))).take a ++ (rowT (n + 2) (F (i + 1))).drop (a + 1) = rowT (n + 1) (minor F a i) := by
  unfold rowT
  refine List.ext_getElem (by simp; omega) fun j h1 h2 => ?_
  simp only [List.length_append, List.length_take, List.length_drop, List.length_map, List.length_range] at h1
  rw [List.getElem_append]
  simp only [List.length_take, List.length_map, List.length_range, List.getElem_map, List.getElem_range, minor, List.getElem_take, List.getElem_drop]
  by_cases hj : j < a
  · rw [dif_pos (by omega), if_pos hj]
  · rw [dif_neg (by omega), if_neg hj]
    congr 2; omega
theorem rows_drop1 {n k : Nat} {F : Mx} : (rowsT (n + 2) k F).drop 1 = (List.range (n + 1)).map fun i => AV.list (rowT k (F (i + 1))) := by
  unfold rowsT
  refine List.ext_getElem (by simp) fun j h1 h2 => ?_
  simp [Nat.add_comm]

theorem law_determinant_ok (F24 : FnAt base mg 24) (G : Glb base mg) : ∀ (n : Nat) (F : Mx), 1 ≤ n → n ≤ 20 → (∀ i j, i < n → j < n → (F i j).natAbs < 2 ^ 30) →
    Con prog w base mg ln "_law_determinant" n [.list (rowsT n n F)] fun t => t = .int (detL n F) := by
  intro n
  induction n using Nat.strongRecOn with
  | ind n ih =>
  intro F h1 hn hF
  obtain ⟨fa, o, pm, cd, doc, hm, ho, hd, hc⟩ := F24.f
  obtain ⟨n0, rfl⟩ : ∃ n0, n = n0 + 1 := ⟨n - 1, by omega⟩
  refine ⟨fa, hm, ⟨o, _, ho, hd⟩, callW_def (names := ["rows"]) ho hd G.lim hc (fun vs h => ?_) rfl (by rfl) fun A L R Lo => ?_⟩
  · obtain ⟨x, rfl⟩ := len1 h; rfl
  refine SWs_cons (SW_if (TW_cmp (EW_lenV G rfl (by rw [rowsT_len]; omega) (EW_int (Op_eq ⟨_, rfl, ?_⟩)))))
  rw [rowsT_len]
  cases n0 with
  | zero =>
    rw [if_pos (by simp)]
    refine SWs_cons (SW_ret (EW_it3 (EW_it rfl (EW_int ⟨0, rfl, by omega, _, rowsT_get (by omega), _, rfl, EW_int ⟨0, rfl, by omega, _, rowT_get (by omega), rfl⟩⟩))))
  | succ n =>
    rw [if_neg (by simp; omega)]
    refine SWs_nil (SWs_cons (SW_asg (.inl ⟨rfl, rfl⟩) (EW_int ?_)))
    refine SWs_cons (SW_for (It_enum G R.hd rfl (EW_it rfl (EW_int ⟨0, rfl, by omega, _, rowsT_get (by omega), _, rfl, fun i σ => σ = [vV "rows" (.list (rowsT (n + 2) (n + 2) F)), vI "found" (sumN i fun a => (if a % 2 = 0 then F 0 a else 0 - F 0 a) * detL (n + 1) (minor F a))],
      [vV "rows" (.list (rowsT (n + 2) (n + 2) F)), vI "found" 0], Sg.le_cons rfl (Sg.le_cons rfl Sg.le_nil), rfl, ?_, ?_⟩))))
    · rintro a t σ et rfl
      have ha : a < n + 2 := by
        have := (List.getElem?_eq_some_iff.mp et).1
        rwa [enumL_len, rowT_len] at this
      have e1 : t = .tup [.int (a : Nat), .int (F 0 a)] := by
        rw [enumL_row, List.getElem?_map, List.getElem?_range ha] at et
        exact (Option.some.inj et).symm
      subst e1
      have h0a := hF 0 a (by omega) ha
      refine TgW_tup R.hd rfl (AW_name (.inr ⟨rfl, rfl⟩) (AW_name (.inl ⟨rfl, rfl⟩) ?_))
      refine SWs_cons (SW_asgCompV rfl (CompOk.of rfl (by rfl)) rfl (It_list R.hd (EW_from (EW_name rfl ⟨_, rfl, by rw [rowsT_len]; omega, EW_int ⟨1, rfl, _, rfl, by simp [rowsT_len]; omega, ?_⟩⟩))))
      rw [rows_drop1]
      refine CompT_map _ _ (fun i => AV.list (rowT (n + 1) (minor F a i))) ?_ ?_
      · intro C i Lo2 him
        refine TgC_name (.inl ⟨rfl, rfl⟩) (.head _) ?_ (by simp)
        refine EW_bin (EW_upto (EW_name rfl ⟨_, rfl, by rw [rowT_len]; omega, EW_name rfl ⟨a, rfl, ?_⟩⟩))
        refine EW_from (EW_name rfl ⟨_, rfl, by rw [rowT_len]; omega, EW_bin (EW_name rfl (EW_int (Op_add ⟨a + 1, by push_cast; rfl, Op_cat (by simp [rowT_len]; omega) ?_⟩)))⟩)
        rw [row_minor ha]
      · have e2 : (List.range (n + 1)).map (fun i => AV.list (rowT (n + 1) (minor F a i))) = rowsT (n + 1) (n + 1) (minor F a) := rfl
        rw [e2]
        have hmin : ∀ i j, i < n + 1 → j < n + 1 → (minor F a i j).natAbs < 2 ^ 30 := fun i j hi hj => by
          unfold minor
          split
          · exact hF _ _ (by omega) (by omega)
          · exact hF _ _ (by omega) (by omega)
        refine SWs_cons (SW_asg (.inl ⟨rfl, rfl⟩) (EW_bin (EW_name rfl (EW_bin (EW_if (TW_cmp (EW_bin (EW_name rfl (EW_int (Op_mod ⟨by decide, EW_int (Op_eq ⟨_, rfl, ?_⟩)⟩))))))))))
        have em : (((a : Int).fmod 2) == 0) = decide (a % 2 = 0) := by
          rw [show (2 : Int) = ((2 : Nat) : Int) from rfl, fmod_nat, Bool.eq_iff_iff]
          simp only [beq_iff_eq, decide_eq_true_eq]; omega
        rw [em]
        by_cases hpar : a % 2 = 0
        · rw [if_pos (by simpa using hpar)]
          refine EW_name rfl (EW_fn G F24 R (EsW_cons (EW_name rfl (EsW_nil ⟨_, ih (n + 1) (by omega) (minor F a) (by omega) (by omega) hmin, ?_⟩))) (hk := Nat.le_refl _))
          rintro t rfl
          refine Op_mul (Op_add ?_) (mulL (by omega))
          have key : (sumN a fun a => (if a % 2 = 0 then F 0 a else 0 - F 0 a) * detL (n + 1) (minor F a)) + F 0 a * detL (n + 1) (minor F a) = sumN (a + 1) fun a => (if a % 2 = 0 then F 0 a else 0 - F 0 a) * detL (n + 1) (minor F a) := by
            simp only [sumN, if_pos hpar]
          rw [key]
          exact SWs_nil ⟨_, Sg.le_trans' (Sg.le_cons rfl (Sg.le_cons rfl Sg.le_nil)) rfl, rfl⟩
        · rw [if_neg (by simpa using hpar)]
          refine EW_bin (EW_int (EW_name rfl (Op_sub (EW_fn G F24 R (EsW_cons (EW_name rfl (EsW_nil ⟨_, ih (n + 1) (by omega) (minor F a) (by omega) (by omega) hmin, ?_⟩))) (hk := Nat.le_refl _)))))
          rintro t rfl
          refine Op_mul (Op_add ?_) (mulL (by omega))
          have key : (sumN a fun a => (if a % 2 = 0 then F 0 a else 0 - F 0 a) * detL (n + 1) (minor F a)) + (0 - F 0 a) * detL (n + 1) (minor F a) = sumN (a + 1) fun a => (if a % 2 = 0 then F 0 a else 0 - F 0 a) * detL (n + 1) (minor F a) := by
            simp only [sumN, if_neg hpar]
          rw [key]
          exact SWs_nil ⟨_, Sg.le_trans' (Sg.le_cons rfl (Sg.le_cons rfl Sg.le_nil)) rfl, rfl⟩
    · rintro σ rfl
      rw [enumL_len, rowT_len]
      exact SWs_cons (SW_ret (EW_name rfl rfl))
end Mine
end F10_part
section B17_part
open PySem PySem.Calls PyProof.Rows PySem.W
namespace Mine

theorem turn0_eq (elt t0 i0 t1 i1 : Expr) (ifs1 : List Expr) (scope : Scope) (pos : Pos) (it acc : Value) (env : Env) :
    compTurn (.ListComp elt [⟨t0, i0, [], 0⟩, ⟨t1, i1, ifs1, 0⟩] scope pos) 0 it acc env = (do
      standAt i0.pos
      match ← pyNext it with
      | none => pure (.done .next)
      | some v =>
        letOwnedTupleGo t0 it v
        assign t0 env v
        let x ← eval i1 env
        standAt i1.pos
        let x ← foldedSetIterable i1 env x
        let _ ← runOwn (.compStart (.ListComp elt [⟨t0, i0, [], 0⟩, ⟨t1, i1, ifs1, 0⟩] scope pos) 1 (← holding [x] (pyIter x)) acc env) env
        again (.compLoop (.ListComp elt [⟨t0, i0, [], 0⟩, ⟨t1, i1, ifs1, 0⟩] scope pos) 0 it acc env)) := by rfl
theorem turn1_eq (elt t0 i0 t1 i1 : Expr) (ifs1 : List Expr) (scope : Scope) (pos : Pos) (it acc : Value) (env : Env) :
    compTurn (.ListComp elt [⟨t0, i0, [], 0⟩, ⟨t1, i1, ifs1, 0⟩] scope pos) 1 it acc env = (do
      standAt i1.pos
      match ← pyNext it with
      | none => pure (.done .next)
      | some v =>
        letOwnedTupleGo t1 it v
        assign t1 env v
        let mut ok := true
        for c in ifs1 do
          if ok then ok ← isTrue c env (eval c env)
        if ok then
          (do let _ ← call (.builtin "list.append") [acc, ← eval elt env])
        again (.compLoop (.ListComp elt [⟨t0, i0, [], 0⟩, ⟨t1, i1, ifs1, 0⟩] scope pos) 1 it acc env)) := by rfl

section
variable {prog : Program} {w : World} {A : Around} {E : Value → Shared → Prop} {R : Result → Shared → Prop} {s : Shared}
theorem start1 {elt t0 i0 t1 i1 : Expr} {ifs1 : List Expr} {scope : Scope} {pos : Pos} {it acc : Value} {env : Env}
    (h0 : codeAny (model prog w) A (.compLoop (.ListComp elt [⟨t0, i0, [], 0⟩, ⟨t1, i1, ifs1, 0⟩] scope pos) 1 it acc env) R s)
    (h : wpAny (model prog w) A (pyIter it) (fun it' s' => codeAny (model prog w) A (.compLoop (.ListComp elt [⟨t0, i0, [], 0⟩, ⟨t1, i1, ifs1, 0⟩] scope pos) 1 it' acc env) R s')
      (notedBy (model prog w) A env fun x s' => R (.error x) s') s) :
    codeAny (model prog w) A (.compStart (.ListComp elt [⟨t0, i0, [], 0⟩, ⟨t1, i1, ifs1, 0⟩] scope pos) 1 it acc env) R s := by
  refine codeAny_of_tree ?_
  show wpAny _ _ ((compStart (.ListComp elt [⟨t0, i0, [], 0⟩, ⟨t1, i1, ifs1, 0⟩] scope pos) 1 it acc env).onRaise (fun x => do noteFrame x env; standAt theWindowsPlace)) _ _ s
  refine wpAny_notedAt ?_
  unfold compStart
  show wpAny _ _ (ask >>= _) _ _ s
  refine wpAny_bind (wpAny_askSetting (wpAny_ite ?_))
  split
  · first
      | exact wpAny_bind (wpAny_pure (wpAny_pure (And.intro rfl h0)))
      | exact wpAny_pure (And.intro rfl h0)
  · first
      | exact wpAny_bind (wpAny_rule (wpAny_bind (wpAny_standAt (wpAny_bind (wpAny_mono h (fun it' s' h' => wpAny_pure (And.intro rfl h')) fun _ _ x => x)))))
      | (refine wpAny_bind (wpAny_rule ?_); show wpAny _ _ (standAt i1.pos >>= _) _ _ s; exact wpAny_bind (wpAny_standAt (wpAny_bind (wpAny_mono h (fun it' s' h' => wpAny_pure (And.intro rfl h')) fun _ _ x => x))))
end

noncomputable def Noise (c : Cx) (ws : List Addr) (σ : Sg) (t1 : Expr) (ifs1 : List Expr) (ts : List AV) : Prop :=
  ∀ t ∈ ts, TgC c ws σ t1 t fun σ'' => Sg.le σ σ'' ∧ IfsW c σ'' ifs1 fun b => b = false

section
variable {c : Cx} {σ : Sg}
theorem inner_ok {elt t0 i0 t1 i1 : Expr} {ifs1 : List Expr} {scope : Scope} {pos : Pos} {acc : Value} {ws : List Addr} {O X s} {E : Value → Shared → Prop} {R : Result → Shared → Prop} (L : Lo c.base c.env) (I : Inv c.base c.env c.ln O X σ s.heap)
    (hws : ∀ b ∈ ws, b = c.env.locals ∨ ∃ y, (y, b) ∈ c.env.cells) (h : ItW c σ t1 i1 (Noise c ws σ t1 ifs1))
    (hR : ∀ h' tk, KpW c.ln ws s.heap h' → Inv c.base c.env c.ln O X σ h' → R (.ok .next) { s with heap := h', toks := tk }) :
    wpAny (model c.prog c.w) c.A (eval i1 c.env) (fun x s₁ => wpAny (model c.prog c.w) c.A (pyIter x) (fun it s₂ =>
      codeAny (model c.prog c.w) c.A (.compStart (.ListComp elt [⟨t0, i0, [], 0⟩, ⟨t1, i1, ifs1, 0⟩] scope pos) 1 it acc c.env) R s₂) E s₁) E s := by
  refine wpAny_mono (h O X E s I) (fun xv s1 h1 => wpAny_mono h1 (fun it s2 h2 => ?_) fun _ _ x => x) fun _ _ x => x
  obtain ⟨Ia, fp, wr, P, Md, St, ts, rfl, K, noise⟩ := h2
  have hw := K.wr I
  have wnd : ∀ {σ' : Sg} {h : Heap} {X' : List Addr}, Inv c.base c.env c.ln O X' σ' h → ∀ b ∈ ws, ∃ o, h.get? b = some o ∧ isData o = false := fun {σ' h X'} I' b m => by
    rcases hws b m with rfl | ⟨y, q⟩
    · obtain ⟨m, n⟩ := I'.ns; exact Heap.Ns.obj n
    · obtain ⟨v, n⟩ := I'.cs y b q; exact Heap.IsCell.obj n
  have hfp : ∀ b ∈ fp, b ∉ ws := fun b m q => by
    obtain ⟨_, _, o, e, d⟩ := K.fp b m
    obtain ⟨o', e', d'⟩ := wnd K.inv b q
    rw [e] at e'; cases e'; rw [d] at d'; cases d'
  have loop : codeAny (model c.prog c.w) c.A (.compLoop (.ListComp elt [⟨t0, i0, [], 0⟩, ⟨t1, i1, ifs1, 0⟩] scope pos) 1 (.ref Ia) acc c.env) R s2 := by
    refine codeAny_loop rfl (fun k s' => ∃ i, k = ts.length + 1 - i ∧ i ≤ ts.length ∧ (∃ h' tk, s' = { s2 with heap := h', toks := tk }) ∧ KpW c.ln (wr ++ ws) s2.heap s'.heap ∧ Inv c.base c.env c.ln O (wr ++ X) σ s'.heap ∧ St i s'.heap) (fun n s' hI => ?_) (ts.length + 1)
      ⟨0, rfl, Nat.zero_le _, ⟨_, s2.toks, rfl⟩, .refl, K.inv, K.st⟩
    show wpAny _ c.A ((compTurn (.ListComp elt [⟨t0, i0, [], 0⟩, ⟨t1, i1, ifs1, 0⟩] scope pos) 1 (.ref Ia) acc c.env).onRaise (fun x => do noteFrame x c.env; theTreesLotGoes x)) _ _ s'
    refine wpAny_noted ?_
    rw [turn1_eq]
    obtain ⟨i, rfl, hi, hs', kk, I', hst⟩ := hI
    have wrX : ∀ b ∈ wr, b ∈ wr ++ X := fun b m => List.mem_append_left _ m
    have stepW : ∀ h2 : Heap, (∀ b o, b ∉ wr → s'.heap.get? b = some o → h2.get? b = some o) → (∀ b ∈ wr, ∃ o, h2.get? b = some o ∧ isData o = true) →
        KpW c.ln wr s'.heap h2 ∧ Inv c.base c.env c.ln O (wr ++ X) σ h2 := fun h2 hk ex =>
      ⟨.step I' hk fun b m => .inl ⟨wrX b m, (hw b m).2.2.1⟩, I'.step hk (fun b m => ⟨wrX b m, (hw b m).2⟩) (fun b m => K.ex i _ hst b m) ex⟩
    refine wpAny_bind (wpAny_standAt (wpAny_bind ?_))
    by_cases hlt : i < ts.length
    · refine K.W.item i _ _ _ hlt hst fun v h1 tk1 hMd hk1 => ?_
      dsimp only
      refine wpAny_bind (K.W.go i v _ _ _ hMd fun h2 hP hst2 hk2 => ?_)
      have hk : ∀ b o, b ∉ wr → s'.heap.get? b = some o → h2.get? b = some o := fun b o n e => hk2 b o n (hk1 b o n e)
      obtain ⟨kw, I2⟩ := stepW h2 hk (K.ex (i + 1) _ hst2)
      obtain ⟨t, et, hit⟩ := K.itm i v h2 hlt hP
      have kk2 := kk.trans (kw.up fun b m => List.mem_append_left ws m)
      have sq2 : Sq (wr ++ X) s2.heap h2 := fun a o ha d e => kk2.keep a o (fun m => by
        rcases List.mem_append.mp m with m | m
        · exact ha (List.mem_append_left _ m)
        · obtain ⟨o', e', d'⟩ := wnd K.inv a m
          rw [e] at e'; cases e'; rw [d] at d'; cases d') (fun q => ha (K.inv.li a q).1) e
      have hit2 : Itm c.ln (wr ++ X) h2 v t := by
        rcases hit with r | ⟨T, uu, ss, e1, e2, ht, r⟩
        · exact .inl (RVs.keep sq2 r)
        · exact .inr ⟨T, uu, ss, e1, e2, ht, r.keep sq2⟩
      obtain ⟨hA, tA, rfl⟩ := hs'
      have tm : t ∈ ts := List.mem_of_getElem? et
      refine wpAny_bind (wpAny_mono (noise t tm O (wr ++ X) _ ⟨h2, s2.gens, s2.drawn, tk1, s2.os⟩ v L I2 hit2) (fun _ s3 h3 => ?_) fun _ _ x => x)
      obtain ⟨⟨h3', t3, rfl⟩, hk3, σ3, I3, hle, h3⟩ := h3
      have kw3 : KpW c.ln ws h2 h3' := .step I2 hk3 fun b m => .inr (wnd I2 b m)
      have st3 : St (i + 1) h3' := K.W.frame (i + 1) h2 h3' hst2 fun b m o e => hk3 b o (hfp b m) e
      have kk3 := kk2.trans (kw3.up fun b m => List.mem_append_right wr m)
      refine wpAny_bind (wpAny_mono (wpAny_ifs h3 I3) (fun b s4 h4 => ?_) fun _ _ x => x)
      obtain ⟨k4, rfl⟩ := h4
      obtain ⟨h4', t4, rfl, k4⟩ := k4
      have I4 := I3.kp k4
      have st4 : St (i + 1) h4' := K.W.frame (i + 1) h3' h4' st3 fun b m o e => k4.keep b o (K.fp b m).2.1 e
      exact wpAny_pure ⟨rfl, ts.length + 1 - (i + 1), by omega, i + 1, rfl, hlt, ⟨h4', t4, rfl⟩, kk3.trans (.kp k4 _), I4.le hle, st4⟩
    · have hi2 : i = ts.length := by omega
      subst hi2
      refine K.W.done _ _ _ hst fun h1 tk1 hk1 => wpAny_pure ?_
      have I1 := I'.dropW hk1 (fun b m => ⟨wrX b m, (hw b m).2⟩) (fun b m => K.ex _ _ hst b m)
      have kw : KpW c.ln wr s'.heap h1 := .step I' hk1 fun b m => .inl ⟨wrX b m, (hw b m).2.2.1⟩
      have kkF := kk.trans (kw.up fun b m => List.mem_append_left ws m)
      have xw : ∀ b ∈ X, b ∉ wr := fun b m q => by
        obtain ⟨o, e, _⟩ := I.xs b m
        rw [K.new b q] at e; cases e
      have I1' : Inv c.base c.env c.ln O X σ h1 := I1.drop (fun b m => List.mem_filter.mpr ⟨List.mem_append_right _ m, by simpa using xw b m⟩) I.ox fun l e => (I.li l e).1
      obtain ⟨hA, tA, rfl⟩ := hs'
      obtain ⟨hZ, tZ, eZ⟩ := K.kp.same
      have fin := hR h1 tk1 ⟨fun b o n ne e => kkF.keep b o (fun m => by
        rcases List.mem_append.mp m with m | m
        · rw [K.new b m] at e; cases e
        · exact n m) ne (K.kp.kp.keep b o ne e), fun l Y e x => kkF.line l Y e (K.kp.kp.line l Y e x)⟩ I1'
      rw [eZ]; exact fin
  exact start1 loop (K.self _ _ _ K.st loop)
end
end Mine
end B17_part
section B18_part
open PySem PySem.Calls PyProof.Rows PySem.W
namespace Mine
section
variable {c : Cx} {σ : Sg}
theorem comp_core2 {elt t0 i0 t1 i1 : Expr} {ifs1 : List Expr} {scope : Scope} {pos : Pos} {R : List AV → Prop} {O X : List Addr} {E : Value → Shared → Prop} {s : Shared} (L : Lo c.base c.env) (I : Inv c.base c.env c.ln O X σ s.heap) (ok : CompOk scope c.env σ)
    (h : ItW c σ t0 i0 fun ts => ∀ C t, Lo c.base (cenv scope C c.env) → t ∈ ts → TgC { c with env := cenv scope C c.env } (cws scope C) (Sg.free scope σ) t0 t fun σ'' => ItW { c with env := cenv scope C c.env } σ'' t1 i1 (Noise { c with env := cenv scope C c.env } (cws scope C) σ'' t1 ifs1)) (hR : R [])
    (hs1 : ∀ env x, foldedSetIterable i1 env x = pure x) (RR : Value → Addr → Result → Shared → Prop)
    (hRR : ∀ D C h' tk acc us, CompEnd c O X σ s R D C h' acc us → RR (.ref D) C (.ok .next) { s with heap := h', toks := tk }) :
    wpAny (model c.prog c.w) c.A (eval i0 c.env) (fun x s₁ => wpAny (model c.prog c.w) c.A (pyIter x) (fun it s₂ => wpAny (model c.prog c.w) c.A (newList []) (fun acc s₃ =>
      wpAny (model c.prog c.w) c.A (newFunctionEnv scope c.env.globals (clOf c.env scope.names []) [] c.env.qual none .none (some c.env)) (fun cenv s₄ =>
        codeAny (model c.prog c.w) c.A (.compStart (.ListComp elt [⟨t0, i0, [], 0⟩, ⟨t1, i1, ifs1, 0⟩] scope pos) 0 it acc { cenv with scope := relabel scope c.env }) (RR acc cenv.locals) s₄) E s₃) E s₂) E s₁) E s := by
  refine wpAny_mono (h O X E s I) (fun xv s1 h1 => wpAny_mono h1 (fun it s2 h2 => ?_) fun _ _ x => x) fun _ _ x => x
  obtain ⟨Ia, fp, wr, P, Md, St, ts, rfl, K, turn⟩ := h2
  have hw := K.wr I
  refine wpAny_newObj_type (newCompEnv ?_)
  generalize hH1 : s2.heap.push { cls := .type "list", dict := none, data := .seq ([] : List Value).toArray } = H1
  generalize hD : s2.heap.objs.size = D
  have hC : H1.objs.size = D + 1 := by rw [← hH1, Heap.size_push, hD]
  dsimp only
  rw [hC]
  generalize hH2 : H1.push { cls := .type "dict", data := .dict #[] } = H2
  have hC2 : H2.objs.size = D + 1 + 1 := by rw [← hH2, Heap.size_push, hC]
  generalize hCC : D + 1 = C at *
  have hcf : cellsFrom (C + 1) scope.names (clOf c.env scope.names []) = cellsFrom (C + 1) scope.names [] ++ clOf c.env scope.names [] := by
    have := cellsFrom_app scope.names (C + 1) [] (clOf c.env scope.names [])
    simpa using this
  rw [hcf]
  -- the new places
  have up01 : ∀ b o, s2.heap.get? b = some o → H1.get? b = some o := fun b o e => hH1 ▸ Heap.get?_push_of_some _ e
  have up12 : ∀ b o, H1.get? b = some o → H2.get? b = some o := fun b o e => hH2 ▸ Heap.get?_push_of_some _ e
  have up2 : ∀ b o, H2.get? b = some o → (pushCells H2 scope.names).get? b = some o := pushCells_keeps _ _
  have up : ∀ b o, s2.heap.get? b = some o → (pushCells H2 scope.names).get? b = some o := fun b o e => up2 _ _ (up12 _ _ (up01 _ _ e))
  have co := cellsFrom_ok scope.names H2 (C + 1) [] ⟨fun _ _ hm => (nomatch hm), List.Pairwise.nil⟩ (by rw [hC2]; exact Nat.le_refl _)
  rw [hC2] at co
  have hlt2 : ∀ b o, s2.heap.get? b = some o → b < D := fun b o e => hD ▸ Heap.lt_size e
  have wsge : ∀ b ∈ cws scope C, C ≤ b := fun b m => by
    rcases List.mem_cons.mp m with rfl | m
    · exact Nat.le_refl _
    · obtain ⟨⟨y, d⟩, hm, rfl⟩ := List.mem_map.mp m
      exact Nat.le_of_succ_le (co.empty y d hm).2
  have wsne : ∀ b ∈ cws scope C, ∀ o, s2.heap.get? b ≠ some o := fun b m o e => by
    have h1 := hlt2 b o e
    have h2 := wsge b m
    rw [← hCC] at h2
    exact absurd (Nat.lt_of_lt_of_le h1 (Nat.le_of_succ_le h2)) (Nat.lt_irrefl _)
  have dne : ∀ o, s2.heap.get? D ≠ some o := fun o e => Nat.lt_irrefl _ (hlt2 D o e)
  have dws : D ∉ cws scope C := fun m => by
    have := wsge D m
    rw [← hCC] at this
    exact Nat.not_succ_le_self _ this
  have old : ∀ {b}, (∃ o, s2.heap.get? b = some o) → b ≠ D ∧ b ∉ cws scope C := fun {b} ⟨o, e⟩ => ⟨fun q => dne o (q ▸ e), fun m => wsne b m o e⟩
  have ap : Apart c.base c.env scope C := by
    refine ⟨fun b m => ⟨?_, fun q => ?_, fun y q => ?_⟩, co.apart⟩
    · cases e : c.base.get? b with
      | none => rfl
      | some o => exact absurd (K.inv.bs b o e) (wsne b m o)
    · obtain ⟨mm, n⟩ := K.inv.ns
      obtain ⟨o, e, _⟩ := Heap.Ns.obj n
      exact wsne b m o (q ▸ e)
    · obtain ⟨v, n⟩ := K.inv.cs y b q
      obtain ⟨o, e, _⟩ := Heap.IsCell.obj n
      exact wsne b m o e
  have hp0 : H2.Ns C fun x => none := by
    have := Heap.Ns.new H1 (.type "dict")
    rw [hC] at this
    rw [← hH2]; exact this
  have plc : Plc (pushCells H2 scope.names) scope C := ⟨⟨_, hp0.keeps up2⟩, fun y d m => ⟨_, (co.empty y d m).1⟩⟩
  have pD : (pushCells H2 scope.names).PlainList D #[] := ⟨_, up2 _ _ (up12 _ _ (by rw [← hH1, ← hD]; exact Heap.get?_push_size _ rfl))⟩
  have kp0 : KpH c.ln s2.heap (pushCells H2 scope.names) := .grow up
  have n2 : s2.heap.get? D = none := by rw [← hD]; exact get_size _
  have I0 : Inv c.base c.env c.ln O (D :: (wr ++ X)) σ (pushCells H2 scope.names) := K.inv.avoid kp0 n2 ⟨_, pD.choose_spec, rfl⟩
  have hfp : ∀ b ∈ fp, b ≠ D ∧ b ∉ cws scope C := fun b m => let ⟨_, _, o, e, _⟩ := K.fp b m; old ⟨o, e⟩
  have hDO : D ∉ O := fun m => by
    obtain ⟨o, e, _⟩ := K.inv.xs D (K.inv.ox D m)
    exact dne o e
  have hDl : c.ln ≠ some D := fun q => by
    obtain ⟨o, e, _⟩ := K.inv.xs D (K.inv.li D q).1
    exact dne o e
  have hDb : c.base.get? D = none := by
    cases e : c.base.get? D with
    | none => rfl
    | some o => exact absurd (K.inv.bs D o e) (dne o)
  -- the walk
  have loop : ∀ (s₃ : Shared), s₃ = { s2 with heap := pushCells H2 scope.names } → codeAny (model c.prog c.w) c.A (.compLoop (.ListComp elt [⟨t0, i0, [], 0⟩, ⟨t1, i1, ifs1, 0⟩] scope pos) 0 (.ref Ia) (.ref D) (cenv scope C c.env)) (RR (.ref D) C) s₃ := by
    rintro s₃ rfl
    refine codeAny_loop rfl (fun k s' => ∃ i, k = ts.length + 1 - i ∧ i ≤ ts.length ∧ (∃ h' tk, s' = { s2 with heap := h', toks := tk }) ∧ KpW c.ln (wr ++ D :: cws scope C) s2.heap s'.heap ∧ Inv c.base c.env c.ln O (D :: (wr ++ X)) σ s'.heap ∧ Plc s'.heap scope C ∧ St i s'.heap ∧ s'.heap.PlainList D (List.toArray [])) (fun n s' hI => ?_) (ts.length + 1)
      ⟨0, rfl, Nat.zero_le _, ⟨_, s2.toks, rfl⟩, .kp kp0 _, I0, plc, K.W.frame 0 _ _ K.st fun b _ o e => up b o e, pD⟩
    show wpAny _ c.A ((compTurn (.ListComp elt [⟨t0, i0, [], 0⟩, ⟨t1, i1, ifs1, 0⟩] scope pos) 0 (.ref Ia) (.ref D) (cenv scope C c.env)).onRaise (fun x => do noteFrame x (cenv scope C c.env); theTreesLotGoes x)) _ _ s'
    refine wpAny_noted ?_
    rw [turn0_eq]
    obtain ⟨i, rfl, hi, hs', kk, I', pl', hst, pd⟩ := hI
    refine wpAny_bind (wpAny_standAt (wpAny_bind ?_))
    have wrX : ∀ b ∈ wr, b ∈ D :: (wr ++ X) := fun b m => .tail _ (List.mem_append_left _ m)
    have wrD : ∀ b ∈ wr, b ≠ D ∧ b ∉ cws scope C := fun b m => hfp b (K.W.sub b m)
    -- a step of the walk itself
    have stepW : ∀ h2 : Heap, (∀ b o, b ∉ wr → s'.heap.get? b = some o → h2.get? b = some o) → (∀ b ∈ wr, ∃ o, h2.get? b = some o ∧ isData o = true) →
        KpW c.ln wr s'.heap h2 ∧ Inv c.base c.env c.ln O (D :: (wr ++ X)) σ h2 ∧ Plc h2 scope C ∧ h2.PlainList D (List.toArray []) := fun h2 hk ex => by
      refine ⟨.step I' hk fun b m => .inl ⟨wrX b m, (hw b m).2.2.1⟩, I'.step hk (fun b m => ⟨wrX b m, (hw b m).2⟩) (fun b m => K.ex i _ hst b m) ex, ?_, ?_⟩
      · obtain ⟨m, n⟩ := pl'.ns
        refine ⟨⟨m, n.at' fun o => hk _ o fun q => (wrD _ q).2 (.head _)⟩, fun y d m => ?_⟩
        obtain ⟨v, o, e, d'⟩ := pl'.cs y d m
        exact ⟨v, o, hk _ _ (fun q => (wrD _ q).2 (.tail _ (List.mem_map_of_mem (f := (·.2)) m))) e, d'⟩
      · exact pd.at fun o => hk _ o fun q => (wrD _ q).1 rfl
    have upK : ∀ {h1 h2 : Heap}, KpW c.ln wr h1 h2 → KpW c.ln (wr ++ D :: cws scope C) h1 h2 := fun k => k.up fun b m => List.mem_append_left _ m
    by_cases hlt : i < ts.length
    · refine K.W.item i _ _ _ hlt hst fun v h1 tk1 hMd hk1 => ?_
      dsimp only
      refine wpAny_bind (K.W.go i v _ _ _ hMd fun h2 hP hst2 hk2 => ?_)
      have hk : ∀ b o, b ∉ wr → s'.heap.get? b = some o → h2.get? b = some o := fun b o n e => hk2 b o n (hk1 b o n e)
      obtain ⟨kw, I2, plc2, pd2⟩ := stepW h2 hk (K.ex (i + 1) _ hst2)
      obtain ⟨t, et, hit⟩ := K.itm i v h2 hlt hP
      have kk2 := kk.trans (upK kw)
      have sq2 : Sq (wr ++ X) s2.heap h2 := fun a o ha d e => kk2.keep a o (fun m => by
        rcases List.mem_append.mp m with m | m
        · exact ha (List.mem_append_left _ m)
        · rcases List.mem_cons.mp m with q | m
          · exact (old ⟨o, e⟩).1 q
          · exact (old ⟨o, e⟩).2 m) (fun q => ha (K.inv.li a q).1) e
      have hX : ∀ a ∈ D :: (wr ++ X), a ∈ wr ++ X ∨ s2.heap.get? a = none := fun a m => by
        rcases List.mem_cons.mp m with rfl | m
        · exact .inr n2
        · exact .inl m
      have hit2 : Itm c.ln (D :: (wr ++ X)) h2 v t := by
        rcases hit with r | ⟨T, uu, ss, e1, e2, ht, r⟩
        · exact .inl (RVs.mono sq2 hX r)
        · exact .inr ⟨T, uu, ss, e1, e2, ht, r.mono sq2 hX⟩
      obtain ⟨hA, tA, rfl⟩ := hs'
      have Lc : Lo c.base (cenv scope C c.env) := L.inner I2 ok ap
      have Ic : Inv c.base (cenv scope C c.env) c.ln O (D :: (wr ++ X)) (Sg.free scope σ) h2 := I2.inner ok plc2 ap
      have tm : t ∈ ts := List.mem_of_getElem? et
      refine wpAny_bind (wpAny_mono (turn C t Lc tm O (D :: (wr ++ X)) _ ⟨h2, s2.gens, s2.drawn, tk1, s2.os⟩ v Lc Ic hit2) (fun _ s3 h3 => ?_) fun _ _ x => x)
      obtain ⟨⟨h3', t3, rfl⟩, hk3, σ3, I3, h3⟩ := h3
      have kw3 : KpW c.ln (cws scope C) h2 h3' := .step I2 hk3 fun b m => .inr (plc2.nd b m)
      have I3o : Inv c.base c.env c.ln O (D :: (wr ++ X)) σ h3' := I2.kw kw3 fun b m => ⟨(ap.b b m).1, .inr ⟨(ap.b b m).2.1, (ap.b b m).2.2, plc2.nd b m⟩⟩
      have pd3 : h3'.PlainList D (List.toArray []) := pd2.at fun o => hk3 _ o dws
      have st3 : St (i + 1) h3' := K.W.frame (i + 1) h2 h3' hst2 fun b m o e => hk3 b o (hfp b m).2 e
      have kk3 : KpW c.ln (wr ++ D :: cws scope C) s2.heap h3' := kk2.trans (kw3.up fun b m => List.mem_append_right _ (.tail _ m))
      have plc3 : Plc h3' scope C := ⟨I3.ns, fun y d m => I3.cs y d (List.mem_append_left _ m)⟩
      have hws : ∀ b ∈ cws scope C, b = (cenv scope C c.env).locals ∨ ∃ y, (y, b) ∈ (cenv scope C c.env).cells := fun b m => by
        rcases List.mem_cons.mp m with rfl | m
        · exact .inl rfl
        · obtain ⟨⟨y, d⟩, hm, rfl⟩ := List.mem_map.mp m
          exact .inr ⟨y, List.mem_append_left _ hm⟩
      refine wpAny_bind (wpAny_mono (inner_ok (c := { c with env := cenv scope C c.env }) (t0 := t0) (i0 := i0) (elt := elt) (scope := scope) (pos := pos) (acc := .ref D) (s := ⟨h3', s2.gens, s2.drawn, t3, s2.os⟩) Lc I3 hws h3 (R := fun r s' => match r with | .ok _ => _ | .error e => _) ?_) (fun xv s5 h5 => wpAny_bind (wpAny_standAt (wpAny_bind (wpAny_of_eq (hs1 _ xv) (wpAny_bind (wpAny_holding (wpAny_mono h5 (fun it s6 h6 => wpAny_bind (wpAny_runOwn h6)) fun _ _ x => x))))))) fun _ _ x => x)
      intro h4' t4 kw4 I4
      have kw4 : KpW c.ln (cws scope C) h3' h4' := kw4
      have I4o : Inv c.base c.env c.ln O (D :: (wr ++ X)) σ h4' := I3o.kw kw4 fun b m => ⟨(ap.b b m).1, .inr ⟨(ap.b b m).2.1, (ap.b b m).2.2, plc3.nd b m⟩⟩
      have pd4 : h4'.PlainList D (List.toArray []) := pd3.at fun o => kw4.keep _ o dws hDl
      have st4 : St (i + 1) h4' := K.W.frame (i + 1) h3' h4' st3 fun b m o e => kw4.keep b o (hfp b m).2 (K.fp b m).2.1 e
      exact wpAny_pure ⟨rfl, ts.length + 1 - (i + 1), by omega, i + 1, rfl, hlt, ⟨h4', t4, rfl⟩, kk3.trans (kw4.up fun b m => List.mem_append_right _ (.tail _ m)), I4o, ⟨I4.ns, fun y d m => I4.cs y d (List.mem_append_left _ m)⟩, st4, pd4⟩
    · have hi2 : i = ts.length := by omega
      subst hi2
      refine K.W.done _ _ _ hst fun h1 tk1 hk1 => wpAny_pure ?_
      have I1 := I'.dropW hk1 (fun b m => ⟨wrX b m, (hw b m).2⟩) (fun b m => K.ex _ _ hst b m)
      have xw : ∀ b ∈ X, b ∉ wr := fun b m q => by
        obtain ⟨o, e, _⟩ := I.xs b m
        rw [K.new b q] at e; cases e
      have sub : ∀ b ∈ D :: X, b ∈ (D :: (wr ++ X)).filter fun a => decide (a ∉ wr) := fun b m => by
        refine List.mem_filter.mpr ?_
        rcases List.mem_cons.mp m with rfl | m
        · exact ⟨.head _, by simpa using fun q => (wrD _ q).1 rfl⟩
        · exact ⟨.tail _ (List.mem_append_right _ m), by simpa using xw b m⟩
      have I1' : Inv c.base c.env c.ln O (D :: X) σ h1 := I1.drop sub (fun b m => .tail _ (I.ox b m)) fun l e => .tail _ (I.li l e).1
      have kw : KpW c.ln wr s'.heap h1 := .step I' hk1 fun b m => .inl ⟨wrX b m, (hw b m).2.2.1⟩
      have kkF := kk.trans (upK kw)
      have bN : ∀ {b}, s2.heap.get? b = none → s.heap.get? b = none := fun {b} z => by
        cases e : s.heap.get? b with
        | none => rfl
        | some o =>
          obtain ⟨o', e'⟩ := (KpS.of I K.kp.kp).live b o e
          rw [z] at e'; cases e'
      have wsN : ∀ b ∈ cws scope C, s.heap.get? b = none := fun b m => bN (by
        cases e : s2.heap.get? b with
        | none => rfl
        | some o => exact absurd e (wsne b m o))
      obtain ⟨hA, tA, rfl⟩ := hs'
      obtain ⟨hZ, tZ, eZ⟩ := K.kp.same
      have dX : D ∉ X := fun q => by
        obtain ⟨o, e, _⟩ := I.xs D q
        rw [bN n2] at e; cases e
      have fin' := hRR D C h1 tk1 [] [] ⟨bN n2, dX, I1', ⟨fun b o ne e => ?_, fun l Y e x => kkF.line l Y e (K.kp.kp.line l Y e x)⟩, ?_, wsN C (.head _), ?_, fun y q => (ap.b C (.head _)).2.2 y q, (ap.b C (.head _)).1, pd.at fun o => hk1 _ o fun q => (wrD _ q).1 rfl, .nil, hR⟩
      · rw [eZ]; exact fin'
      · refine kkF.keep b o (fun m => ?_) ne (K.kp.kp.keep b o ne e)
        rcases List.mem_append.mp m with m | m
        · rw [K.new b m] at e; cases e
        · rcases List.mem_cons.mp m with rfl | m
          · rw [bN n2] at e; cases e
          · rw [wsN b m] at e; cases e
      · obtain ⟨m, n⟩ := pl'.ns
        exact ⟨m, n.at' fun o => hk1 _ o fun q => (wrD _ q).2 (.head _)⟩
      · exact fun q => (ap.b C (.head _)).2.1 q
  exact codeAny_compStart_list (loop _ rfl) (K.self _ _ _ (K.W.frame 0 _ _ K.st fun b _ o e => up b o e) (loop _ rfl))

theorem EW_comp2 {elt t0 i0 t1 i1 : Expr} {ifs1 : List Expr} {scope : Scope} {pos : Pos} {Q : AV → Prop} (L : Lo c.base c.env) (ok : CompOk scope c.env σ)
    (h : ItW c σ t0 i0 fun ts => ∀ C t, Lo c.base (cenv scope C c.env) → t ∈ ts → TgC { c with env := cenv scope C c.env } (cws scope C) (Sg.free scope σ) t0 t fun σ'' => ItW { c with env := cenv scope C c.env } σ'' t1 i1 (Noise { c with env := cenv scope C c.env } (cws scope C) σ'' t1 ifs1)) (q : Q (.list []))
    (hs : ∀ env x, foldedSetIterable i0 env x = pure x := by intro _ _; rfl) (hs1 : ∀ env x, foldedSetIterable i1 env x = pure x := by intro _ _; rfl) :
    EW c σ (.ListComp elt [⟨t0, i0, [], 0⟩, ⟨t1, i1, ifs1, 0⟩] scope pos) Q := EWF.ew (R := fun ts => ts = []) (fun O X E s I => by
  rw [eval_ListComp]
  refine wpAny_comprehension_free (use := none) rfl (hs _) (closure_eq (ok.some I)) ok.kind ok.hnames (comp_core2 (R := fun ts => ts = []) L I ok h rfl hs1 _ fun D C h' tk acc us F => ?_)
  obtain ⟨m, n⟩ := F.ns
  refine ⟨m, n, fun h'' sb => ?_⟩
  obtain ⟨oC, eC, dC⟩ := Heap.Ns.obj n
  have Dd : Dt h' h'' := .but sb eC dC
  have up : ∀ b o, b ≠ C → h'.get? b = some o → h''.get? b = some o := fun b o n e => (sb.2 b n).trans e
  refine ⟨⟨h'', tk, rfl, ⟨fun b o ne e => up b o (fun q => by rw [q, F.cn] at e; cases e) (F.kp.keep b o ne e), fun l Y e x => (F.kp.line l Y e x).dt Dd⟩⟩, D, us, acc, rfl, F.dn, F.dx, ?_, F.rs.keep Dd.sq, F.ok⟩
  exact F.pl.at fun o e => Dd D o (by obtain ⟨k, z⟩ := F.pl; rw [z] at e; cases e; rfl) e) fun ts e => e ▸ q
end
end Mine
end B18_part
section F11_part
open PySem PySem.Calls PyProof.Rows PySem.W
namespace Mine
variable {prog : Program} {w : World} {base : Heap} {mg : Str → Option Value} {ln : Option Addr}

theorem Sg.le_new {σ : Sg} {x t} (h : σ.get x = none) : Sg.le σ ((x, t) :: σ) := fun y u e => by
  unfold Sg.get
  rw [if_neg (by rintro rfl; rw [h] at e; cases e)]
  exact e

theorem law_is_unit_ok (F25 : FnAt base mg 25) (G : Glb base mg) {n p : Nat} {F W : Mx} (hp : 2 ≤ p) (hp2 : p < 2 ^ 20) (hn : n ≤ 400) (hF : ∀ i j, i < n → j < n → (F i j).natAbs < 2 ^ 30) (hW : Bd p n n W)
    (hU : ∀ a s, a < n → s < n → sumN n (fun k => F a k * W k s) % p = if a = s then 1 else 0) :
    Con prog w base mg ln "_law_is_unit" 1 [.list (rowsT n n F), .list (rowsT n n W), .int p] fun t => t = .bool true := by
  obtain ⟨fa, o, pm, cd, doc, hm, ho, hd, hc⟩ := F25.f
  refine ⟨fa, hm, ⟨o, _, ho, hd⟩, callW_def (names := ["rows", "inverse", "p"]) ho hd G.lim hc (fun vs h => ?_) rfl (by rfl) fun A L R Lo => ?_⟩
  · obtain ⟨x, y, z, rfl⟩ := len3 h; rfl
  refine SWs_cons (SW_asg (.inl ⟨rfl, rfl⟩) (EW_rng1 G (EW_lenV G rfl (by rw [rowsT_len]; omega) ⟨n, by rw [rowsT_len], ?_⟩)))
  refine SWs_cons (SW_for (It_up R.hd (EW_name rfl ⟨0, n, rfl, by omega, by omega, fun i σ => σ = [vV "rows" (.list (rowsT n n F)), vV "inverse" (.list (rowsT n n W)), vI "p" p, vV "size" (.rng (0 : Nat) n 1)],
    [vV "rows" (.list (rowsT n n F)), vV "inverse" (.list (rowsT n n W)), vI "p" p, vV "size" (.rng (0 : Nat) n 1)], Sg.le_cons rfl (Sg.le_cons rfl (Sg.le_cons rfl (Sg.le_cons rfl Sg.le_nil))), rfl, ?_, ?_⟩)))
  · rintro a t σ et rfl
    obtain ⟨ha, rfl⟩ := upL_get et
    rw [Nat.sub_zero] at ha
    simp only [Nat.zero_add]
    refine TgW_name (.inr ⟨rfl, rfl⟩) ?_ (by simp)
    refine SWs_cons (SW_for (It_up R.hd (EW_name rfl ⟨0, n, rfl, by omega, by omega, fun i σ => σ = [vV "rows" (.list (rowsT n n F)), vV "inverse" (.list (rowsT n n W)), vI "p" p, vV "size" (.rng (0 : Nat) n 1), vI "at" a],
      [vV "rows" (.list (rowsT n n F)), vV "inverse" (.list (rowsT n n W)), vI "p" p, vV "size" (.rng (0 : Nat) n 1), vI "at" a], Sg.le_cons rfl (Sg.le_cons rfl (Sg.le_cons rfl (Sg.le_cons rfl (Sg.le_cons rfl Sg.le_nil)))), rfl, ?_, ?_⟩)))
    · rintro b t σ et rfl
      obtain ⟨hb, rfl⟩ := upL_get et
      rw [Nat.sub_zero] at hb
      simp only [Nat.zero_add]
      refine TgW_name (.inr ⟨rfl, rfl⟩) ?_ (by simp)
      refine SWs_cons (SW_if (TW_cmp (EW_bin (EW_bi G (by decide) (f := .builtin "sum") (by decide +kernel) (.inl ⟨_, rfl⟩) (EsW_cons (EW_comp Lo (CompOk.of rfl (by rfl)) (It_up R.hd (EW_name rfl ⟨0, n, rfl, by omega, by omega, by rw [upL_len]; omega, CompT_map (List.range' 0 (n - 0)) (fun (i : Nat) => AV.int (i : Int)) (fun k => AV.int (F a k * W k b)) ?_ ?_⟩))))))))
      · intro C k Lo2 hkm
        have hk : k < n := by obtain ⟨i, hi, rfl⟩ := List.mem_range'.mp hkm; omega
        have h1 := hF a k ha hk
        refine TgC_name (.inl ⟨rfl, rfl⟩) (.head _) ?_ (by simp)
        exact EW_bin (EW_it3 (EW_it rfl (EW_name rfl ⟨a, rfl, by omega, _, rowsT_get ha, _, rfl, EW_name rfl ⟨k, rfl, by omega, _, rowT_get hk, EW_it3 (EW_it rfl (EW_name rfl ⟨k, rfl, by omega, _, rowsT_get hk, _, rfl, EW_name rfl ⟨b, rfl, by omega, _, rowT_get hb, Op_mul rfl (mulL (by omega))⟩⟩))⟩⟩)))
      · have e1 : (List.range' 0 (n - 0)).map (fun k => AV.int (F a k * W k b)) = ((List.range n).map fun k => F a k * W k b).map AV.int := by
          rw [Nat.sub_zero, ← List.range_eq_range', List.map_map]; rfl
        rw [e1]
        refine EsW_nil (BiW_sum R (EW_name rfl (Op_mod ⟨by omega, ?_⟩)))
        rw [emodE, sum_range, hU a b ha hb]
        refine EW_if (TW_cmp (EW_name rfl (EW_name rfl (Op_eq ⟨_, rfl, ?_⟩))))
        by_cases e : a = b
        · subst e
          rw [if_pos (by simp)]
          refine EW_int (Op_ne ⟨_, rfl, ?_⟩)
          rw [if_neg (by simp)]
          exact SWs_nil (SWs_nil ⟨_, Sg.le_trans' (Sg.le_cons rfl (Sg.le_cons rfl (Sg.le_cons rfl (Sg.le_cons rfl (Sg.le_cons rfl Sg.le_nil))))) rfl, rfl⟩)
        · rw [if_neg (by simp; omega)]
          refine EW_int (Op_ne ⟨_, rfl, ?_⟩)
          rw [if_neg (by simp [e])]
          exact SWs_nil (SWs_nil ⟨_, Sg.le_trans' (Sg.le_cons rfl (Sg.le_cons rfl (Sg.le_cons rfl (Sg.le_cons rfl (Sg.le_cons rfl Sg.le_nil))))) rfl, rfl⟩)
    · rintro σ rfl
      exact SWs_nil ⟨_, Sg.le_trans' (Sg.le_cons rfl (Sg.le_cons rfl (Sg.le_cons rfl (Sg.le_cons rfl Sg.le_nil)))) rfl, rfl⟩
  · rintro σ rfl
    refine SWs_cons (SW_ret (EW_cmp (EW_comp2 Lo (CompOk.of rfl (by rfl)) (It_list R.hd (EW_name rfl ⟨_, rfl, ?_⟩)) (EW_list (EsW_nil ⟨Nat.zero_le _, Op_eqL (ns := []) (ms := []) R rfl⟩)))))
    intro C t Lo2 htm
    obtain ⟨i, him, rfl⟩ := List.mem_map.mp htm
    have hi : i < n := List.mem_range.mp him
    refine TgC_name (.inl ⟨rfl, rfl⟩) (.head _) ?_ (by simp)
    refine It_list R.hd (EW_name rfl ⟨_, rfl, ?_⟩)
    intro t htm
    obtain ⟨j, hjm, rfl⟩ := List.mem_map.mp htm
    have hj : j < n := List.mem_range.mp hjm
    have hw := hW i j hi hj
    refine TgC_name (.inl ⟨rfl, rfl⟩) (.head _) ⟨Sg.le_new rfl, ?_⟩ (by simp)
    refine TW_not (TW_chain (EW_int (EW_name rfl (Op_le ⟨_, rfl, ?_⟩))))
    rw [if_pos (by simpa using hw.1)]
    exact EW_name rfl (Op_lt ⟨_, rfl, by simpa using hw.2⟩)

/-- the facts of the plain law, of one matrix and one prime -/
structure PrimeOk (n : Nat) (F : Mx) (p : Nat) : Prop where
  det : detF p n (restF p F) = detL n F % p
  inv : (invF p n (restF p F)).isNone = decide (detL n F % p = 0)
  unit : ∀ W, invF p n (restF p F) = some W → Bd p n n (fun i j => W i (n + j)) ∧ ∀ a s, a < n → s < n → sumN n (fun k => F a k * W k (n + s)) % p = if a = s then 1 else 0

theorem law_rests_right_ok (H : Fns base mg) (G : Glb base mg) {n p : Nat} {F : Mx} (hp : 2 ≤ p) (hp2 : p < 2 ^ 20) (hn1 : 1 ≤ n) (hn : n ≤ 20) (hF : ∀ i j, i < n → j < n → (F i j).natAbs < 2 ^ 30) (K : PrimeOk n F p) :
    Con prog w base mg ln "_law_rests_right" 21 [.list (rowsT n n F), .int p] fun t => t = .bool true := by
  obtain ⟨fa, o, pm, cd, doc, hm, ho, hd, hc⟩ := (H.at 27).f
  refine ⟨fa, hm, ⟨o, _, ho, hd⟩, callW_def (names := ["rows", "p"]) ho hd G.lim hc (fun vs h => ?_) rfl (by rfl) fun A L R Lo => ?_⟩
  · obtain ⟨x, y, rfl⟩ := len2 h; rfl
  refine SWs_cons (SW_tupSw (names := ["plain", "told"]) R.hd (slts rfl) (EW_tuple (EsW_cons (EW_comp Lo (CompOk.of rfl (by rfl)) (It_list R.hd (EW_name rfl ⟨_, rfl, by rw [rowsT_len]; omega, CompT_map (List.range n) (fun i => AV.list (rowT n (F i))) (fun i => AV.list (rowT n (restF p F i))) ?_ ?_⟩))))))
  · intro C i Lo2 him
    refine TgC_name (.inl ⟨rfl, rfl⟩) (.head _) ?_ (by simp)
    refine EW_comp Lo2 (CompOk.of rfl (by rfl)) (It_list R.hd (EW_name rfl ⟨_, rfl, by rw [rowT_len]; omega, CompT_map (List.range n) (fun j => AV.int (F i j)) (fun j => AV.int (restF p F i j)) ?_ rfl⟩))
    intro C2 j Lo3 hjm
    refine TgC_name (.inl ⟨rfl, rfl⟩) (.head _) ?_ (by simp)
    exact EW_bin (EW_name rfl (EW_name rfl (Op_mod ⟨by omega, by rw [emodE]; rfl⟩)))
  have e1 : (List.range n).map (fun i => AV.list (rowT n (restF p F i))) = rowsT n n (restF p F) := rfl
  rw [e1]
  refine EsW_cons (EW_bin (EW_fn G (H.at 24) R (EsW_cons (EW_name rfl (EsW_nil ⟨_, law_determinant_ok (H.at 24) G n F hn1 hn hF, ?_⟩))) (hk := by omega)))
  rintro t rfl
  refine EW_name rfl (Op_mod ⟨by omega, EsW_nil ⟨Nat.le_of_ble_eq_true rfl, _, rfl, rfl, ?_⟩⟩)
  rw [emodE]
  refine SWs_cons (SW_asg (.inl ⟨rfl, rfl⟩) (EW_fn G (H.at 17) (k := 1) R (EsW_cons (EW_name rfl (EsW_cons (EW_name rfl (EsW_nil ⟨_, inverse_rests_ok (H.at 17) G hp hp2 (by omega) (restF_bd (by omega)), ?_⟩)))))))
  rintro t rfl
  refine SWs_cons (SW_if (TW_or (TW_cmp (EW_fn G (H.at 14) (k := 1) R (EsW_cons (EW_name rfl (EsW_cons (EW_name rfl (EsW_nil ⟨_, det_rest_ok (H.at 14) G hp hp2 (by omega) (restF_bd (by omega)), ?_⟩)))))))))
  rintro t rfl
  refine EW_name rfl (Op_ne ⟨_, rfl, ?_⟩)
  rw [K.det, if_neg (by simp)]
  refine TW_or (TW_cmp (EW_cmp (EW_name rfl (EW_none (Op_is (EW_cmp (EW_name rfl (EW_int (Op_eq (Op_neB ⟨_, rfl, ?_⟩)))))))))) 
  have e2 : (invT n (invF p n (restF p F))).isNone = (invF p n (restF p F)).isNone := by cases invF p n (restF p F) <;> rfl
  have e3 : (detL n F % (p : Int) == 0) = decide (detL n F % p = 0) := by rw [Bool.eq_iff_iff]; simp
  rw [e2, K.inv, e3, if_neg (by simp)]
  refine TW_orN ?_
  rw [if_neg (by simp)]
  refine SWs_nil (SWs_cons (SW_ret (EW_or (EW_cmp (EW_name rfl (EW_none (Op_is ⟨_, rfl, ?_⟩)))))))
  rw [e2]
  cases hW : invF p n (restF p F) with
  | none => rw [if_pos (by rfl)]
  | some W =>
    obtain ⟨u1, u2⟩ := K.unit W hW
    rw [if_neg (by simp)]
    refine EW_one (EW_fn G (H.at 25) (k := 1) R (EsW_cons (EW_name rfl (EsW_cons (EW_name rfl (EsW_cons (EW_name rfl (EsW_nil ⟨_, law_is_unit_ok (H.at 25) G hp hp2 (by omega) hF u1 u2, fun t e => e⟩))))))))
end Mine
end F11_part
section F12_part
open PySem PySem.Calls PyProof.Rows PySem.W
namespace Mine
variable {prog : Program} {w : World} {base : Heap} {mg : Str → Option Value}

section
variable {c : Cx} {σ : Sg}
theorem set_raw {x px i pos k v a us} {O X E s} (I : Inv c.base c.env c.ln O X σ s.heap) (rd : Rd c.env s.heap x (.ref a)) (hl : c.ln ≠ some a) (l : s.heap.IsList a (List.toArray us)) (h : EW c σ i fun t => t = .int (k : Nat)) (hk : k < us.length) (hu : us.length < 2 ^ 60)
    (hd : (x == ("__debug__" : Str)) = false := by decide) (hc : (x == ("__classdict__" : Str)) = false := by decide) :
    wpAny (model c.prog c.w) c.A (assign (.Subscript (.Name x px) i pos) c.env v) (fun _ s' => ∃ s1 h', Kp c.ln s s1 ∧ s' = { s1 with heap := h' } ∧ Heap.SameBut a s1.heap h' ∧ h'.IsList a (List.toArray (us.set k v))) E s := by
  rw [arm_assign_Subscript]
  refine wpAny_bind (wpAny_holding (name_ I rd (wpAny_bind (wpAny_holding (wpAny_mono (h O X E s I) (fun u s1 h1 => ?_) fun _ _ x => x))) hd hc))
  obtain ⟨k1, t1, r1, rfl⟩ := h1
  obtain ⟨tk, rfl⟩ := r1.int_inv
  have l1 : s1.heap.IsList a us.toArray := l.at fun o => k1.kp.keep _ o hl
  refine wpAny_bind (wpAny_standAt (wpAny_bind (wpAny_holding (wpAny_setItem_list l1 (by omega) (by omega) (by rw [List.size_toArray]; omega) fun h' l' sb => wpAny_release' ?_))))
  have e : us.toArray.setIfInBounds (k : Int).toNat v = (us.set k v).toArray := by simp
  rw [e] at l'
  exact ⟨s1, h', k1, rfl, sb, l'⟩

theorem asgSub_raw {x px i pos value spos k v a us} {O X E s} (I : Inv c.base c.env c.ln O X σ s.heap) (rd : Rd c.env s.heap x (.ref a)) (hl : c.ln ≠ some a) (l : s.heap.IsList a (List.toArray us)) (hv : EW c σ value fun t => t = .int v) (h : EW c σ i fun t => t = .int (k : Nat)) (hk : k < us.length) (hu : us.length < 2 ^ 60)
    (hs : ∀ env, swapsWith value (some (.Subscript (.Name x px) i pos)) spos.line env = pure false := by intro _; rfl) (hd : (x == ("__debug__" : Str)) = false := by decide) (hc : (x == ("__classdict__" : Str)) = false := by decide) :
    wpAny (model c.prog c.w) c.A (exec (.Assign [.Subscript (.Name x px) i pos] value spos) c.env) (fun f s' => f = .next ∧ ∃ s1 h' tk, Kp c.ln s s1 ∧ s' = { s1 with heap := h' } ∧ Heap.SameBut a s1.heap h' ∧ h'.IsList a (List.toArray (us.set k (.int v tk)))) E s := by
  rw [exec_Assign_Subscript _ _ _ _ _ (hs _)]
  refine wpAny_bind (wpAny_standAt (wpAny_bind (wpAny_mono (hv O X E s I) (fun v1 s1 h1 => ?_) fun _ _ x => x)))
  obtain ⟨k1, t, r, rfl⟩ := h1
  obtain ⟨tk, rfl⟩ := r.int_inv
  refine wpAny_bind (wpAny_mono (set_raw (I.kp k1.kp) (rd.kp I k1.kp) hl (l.at fun o => k1.kp.keep _ o hl) h hk hu hd hc) (fun _ s2 h2 => wpAny_pure ?_) fun _ _ x => x)
  obtain ⟨s3, h', k2, e, sb, l'⟩ := h2
  exact ⟨rfl, s3, h', tk, k1.trans k2, e, sb, l'⟩

theorem Inv.freeze {base env ln O X h x pl ts a us} {σ : Sg} (I : Inv base env ln O X σ h) (rd : Rd env h x (.ref a)) (ho : a ∈ O) (hl : ln ≠ some a) (l : h.IsList a (List.toArray us)) (r : RVs ln X h us ts) (hg : σ.get x = some (.own pl ts)) (one : ∀ y p u, σ.get y = some (.own p u) → y = x) :
    Inv base env ln (O.filter fun b => decide (b ≠ a)) (X.filter fun b => decide (b ≠ a)) ((x, .val (.list ts)) :: σ) h := by
  have sub : ∀ b ∈ X.filter (fun b => decide (b ≠ a)), b ∈ X := fun b m => (List.mem_filter.mp m).1
  refine { fk := I.fk, gl := I.gl, ns := I.ns, rd := fun y t g => ?_, cs := I.cs, ap := I.ap, ox := fun b m => ?_, ob := fun b m => I.ob b (List.mem_filter.mp m).1, xs := fun b m => I.xs b (sub b m), bs := I.bs, li := fun q e => ?_ }
  · unfold Sg.get at g
    split at g
    · rename_i q; subst q; cases g
      exact ⟨_, rd, .list (by simp) l (r.weak sub) .nil⟩
    · rename_i ne
      obtain ⟨w, q, lr⟩ := I.rd y t g
      refine ⟨w, q, ?_⟩
      cases t with
      | val t => exact RVs.weak lr sub
      | own p u => exact absurd (one y p u g).symm ne
  · have := List.mem_filter.mp m
    exact List.mem_filter.mpr ⟨I.ox b this.1, this.2⟩
  · obtain ⟨q1, q2, q3⟩ := I.li q e
    exact ⟨List.mem_filter.mpr ⟨q1, by simpa using fun z => hl (by rw [e, z])⟩, q2.weak sub, q3⟩
end

theorem law_cell_ok (F20 : FnAt base mg 20) (G : Glb base mg) {l : Addr} {m : Nat} (hm0 : 0 < m) :
    Con prog w base mg (some l) "_law_cell" 1 [.line, .int m] fun t => ∃ r : Nat, t = .int r ∧ r < m := by
  obtain ⟨fa, o, pm, cd, doc, hm, ho, hd, hcd⟩ := F20.f
  refine ⟨fa, hm, ⟨o, _, ho, hd⟩, fun A X E s vs R S r => ?_⟩
  obtain ⟨lx, lo, lb⟩ := S.li l rfl
  obtain ⟨xa, k, t0, lvs, is, l1, nx, l2, ia, hil, hk0⟩ := lo
  -- the arguments
  cases r with
  | line e r =>
  cases e
  cases r with
  | int r =>
  cases r
  rename_i mt
  have hne : xa ≠ l := fun q => nx (q ▸ lx)
  generalize hX0 : X.filter (fun b => decide (b ≠ l)) = X0
  have x0 : ∀ b ∈ X0, b ∈ X := fun b m => by rw [← hX0] at m; exact (List.mem_filter.mp m).1
  have lx0 : l ∉ X0 := fun m => by rw [← hX0] at m; simpa using (List.mem_filter.mp m).2
  have S0 : St0 base none X0 s.heap := ⟨fun b m => S.xs b (x0 b m), S.bs, fun _ e => nomatch e⟩
  have rints : ∀ (Z : List Addr) (h : Heap), RVs none Z h lvs (is.map AV.int) := fun Z h => RVs.ofInts ia
  have r0 : RVs none X0 s.heap [.ref l, .int m mt] [.list [.list (is.map AV.int), .int k], .int m] :=
    .list lx0 l1 (.list (fun q => nx (x0 _ q)) l2 (rints _ _) (.int .nil)) (.int .nil)
  refine wpAny_call (call_cells (pm := pm) (doc := doc) (name := "_law_cell") (params := paOf (stOf 20)) (body := boOf (stOf 20)) (scope := scOf (stOf 20)) (binds := [("line", .ref l), ("many", .int m mt)]) ?_ (S.bs _ _ ho) hd (G.lim.keeps S.bs) (hcd.keeps S.bs) rfl (fun x mm => ?_) (fun h₁ tk F C => ?_))
  · have := R.dp
    show A.depth < 1000
    omega
  · simp only [List.mem_cons, List.not_mem_nil, or_false] at mm
    rcases mm with rfl | rfl <;> exact .inl rfl
  obtain ⟨I0, L⟩ := inv0 (name := "_law_cell") (a := fa) (cd := cd) (scope := scOf (stOf 20)) (names := ["line", "many"]) (vs := [.ref l, .int m mt]) (h₁ := h₁) rfl (by rfl) rfl S0 r0 F C
  generalize hEnv : envOfC "_law_cell" (scOf (stOf 20)) s.heap.objs.size fa cd = env at I0 L F
  have rdl : Rd env h₁ "line" (.ref l) := .inl ⟨by rw [← hEnv]; rfl, _, by rw [← hEnv]; exact F.ns, by subst hEnv; rfl⟩
  have l1' : h₁.IsList l (List.toArray [.ref xa, .int k t0]) := l1.at fun o => F.keep _ o
  have l2' : h₁.IsList xa (List.toArray lvs) := l2.at fun o => F.keep _ o
  have I : Inv base env none [l] X [("line", .own false [.list (is.map AV.int), .int k]), ("many", .val (.int m))] h₁ := {
    fk := I0.fk, gl := I0.gl, ns := I0.ns, cs := I0.cs, ap := I0.ap
    rd := fun x t g => by
      unfold Sg.get at g
      split at g
      · rename_i q; subst q; cases g
        exact ⟨_, rdl, l, [.ref xa, .int k t0], rfl, .head _, by simp, l1', (fun z => nomatch z), .list nx l2' (rints _ _) (.int .nil)⟩
      · rename_i ne
        unfold Sg.get at g
        split at g
        · rename_i q; subst q; cases g
          obtain ⟨v, rdv, lr⟩ := I0.rd "many" (.val (.int m)) rfl
          exact ⟨v, rdv, by obtain ⟨t, rfl⟩ := RV.int_inv lr; exact .int .nil⟩
        · cases g
    ox := fun b mm => by rw [List.mem_singleton.mp mm]; exact lx
    ob := fun b mm => by rw [List.mem_singleton.mp mm]; exact lb
    xs := fun b mm => let ⟨o, e, d⟩ := S.xs b mm; ⟨o, F.keep _ _ e, d⟩
    bs := I0.bs
    li := fun _ e => nomatch e }
  have A' : Rm (A.deeper env) 0 := ⟨by subst hEnv; exact R.hd, by subst hEnv; have := R.dp; show A.depth + 1 + 0 < 900; omega, by subst hEnv; have := R.un; show A.units + 3 + 100 * 0 < 9000; omega⟩
  refine wpAny_execs_cons (wpAny_mono (asgSub_raw (c := ⟨prog, w, base, A.deeper env, env, none⟩) (v := k + 1) (s := ⟨h₁, s.gens, s.drawn, tk, s.os⟩) I rdl (by simp) l1' (EW_bin (EW_itO rfl (EW_int ⟨1, rfl, by omega, _, rfl, EW_int (Op_add rfl)⟩))) (EW_int rfl) (by simp) (by simp)) (fun f s1 h1 => ?_) fun _ _ x => x)
  obtain ⟨rfl, s1, h', tk1, k1, rfl, sb, l3⟩ := h1
  have I1 := I.kp k1.kp
  have rd1 := rdl.kp I k1.kp
  have d1 : ∃ o, s1.heap.get? l = some o ∧ isData o = true := by
    obtain ⟨o, e, _, n, d⟩ := l1'
    exact ⟨o, k1.kp.keep _ _ (by simp) e, by unfold isData; rw [d]⟩
  have l2'' : s1.heap.IsList xa (List.toArray lvs) := l2'.at fun o => k1.kp.keep _ o (by simp)
  have e3 : ([.ref xa, .int k t0] : List Value).set 1 (.int (k + 1) tk1) = [.ref xa, .int (k + 1) tk1] := rfl
  rw [e3] at l3
  have l2h : h'.IsList xa (List.toArray lvs) := l2''.at fun o e => (sb.2 xa hne).trans e
  have rr : ∀ Z h, xa ∉ Z → h.IsList xa (List.toArray lvs) → RVs none Z h [.ref xa, .int (k + 1) tk1] [.list (is.map AV.int), .int (k + 1)] := fun Z h q z => .list q z (rints _ _) (.int .nil)
  have I2 := I1.setOwn (x := "line") (pl := false) (.head _) (by simp) rd1 sb l3 (fun z => nomatch z) (rr X s1.heap nx l2'') (ownOne rfl) d1
  have rd2 : Rd env h' "line" (.ref l) := by
    obtain ⟨o, e, d⟩ := d1
    have nd : ∀ b o', s1.heap.get? b = some o' → isData o' = false → h'.get? b = some o' := fun b o' e' d' => (sb.2 b (fun q => by subst q; rw [e] at e'; cases e'; rw [d] at d'; cases d')).trans e'
    rcases rd1 with ⟨a1, m1, n1, e1⟩ | ⟨a1, c1, k1, n1⟩
    · obtain ⟨oo, eo, dd⟩ := Heap.Ns.obj n1
      exact .inl ⟨a1, m1, n1.at' fun o' e' => by rw [eo] at e'; cases e'; exact nd _ _ eo dd, e1⟩
    · obtain ⟨oo, eo, dd⟩ := Heap.IsCell.obj n1
      obtain ⟨o2, e2, d2⟩ := n1
      rw [eo] at e2; cases e2
      exact .inr ⟨a1, c1, k1, oo, nd _ _ eo dd, d2⟩
  have I3 := I2.freeze rd2 (.head _) (by simp) l3 (rr X h' nx l2h) rfl (ownOne rfl)
  have rest : SWs ⟨prog, w, base, A.deeper env, env, none⟩ [("line", .val (.list [.list (is.map AV.int), .int (k + 1)])), ("line", .own false [.list (is.map AV.int), .int (k + 1)]), ("line", .own false [.list (is.map AV.int), .int k]), ("many", .val (.int m))] ((boOf (stOf 20)).drop 1) fun o => match o with | .ret t => ∃ r : Nat, t = .int r ∧ r < m | .next _ => False := by
    subst hEnv
    have hmod : ∀ x : Int, ∃ r : Nat, AV.int (x.fmod m) = .int r ∧ r < m := fun x => by
      have := rest_bd hm0 x
      exact ⟨(x % m).toNat, by rw [emodE]; congr 1; omega, by omega⟩
    refine SWs_cons (SW_if (TW_cmp (EW_it rfl (EW_int ⟨1, rfl, by omega, _, rfl, EW_bi G (by decide) (f := .builtin "len") (by decide +kernel) (.inl ⟨_, rfl⟩) (EsW_cons (EW_it rfl (EW_int ⟨0, rfl, by omega, _, rfl, EsW_nil (BiW_len (by simp; omega) (Op_le ⟨_, rfl, ?_⟩))⟩)))⟩))))
    rw [List.length_map]
    by_cases hle : k + 1 ≤ (is.length : Int)
    · rw [if_pos (by simpa using hle)]
      have hki : k.toNat < is.length := by omega
      refine SWs_cons (SW_ret (EW_bin (EW_it3 (EW_it rfl (EW_int ⟨0, rfl, by omega, _, rfl, _, rfl, EW_bin (EW_it rfl (EW_int ⟨1, rfl, by omega, _, rfl, EW_int (Op_sub ⟨k.toNat, ?_, by omega, .int (is[k.toNat]), by simp [hki], EW_name rfl (Op_mod ⟨by omega, hmod _⟩)⟩)⟩))⟩)))))
      congr 1; omega
    · rw [if_neg (by simpa using hle)]
      refine SWs_nil (SWs_cons (SW_ret (EW_bin <| EW_bin <| EW_bin <| EW_int <| EW_it rfl <| EW_int ⟨1, rfl, by omega, _, rfl, Op_mul (EW_bin <| EW_it rfl <| EW_int ⟨1, rfl, by omega, _, rfl, EW_int <| Op_fdiv ?_ ?_ <| Op_add <| EW_name rfl <| Op_mod ⟨by omega, hmod _⟩⟩) (mulL ?_)⟩)))
      · decide
      · exact PyProof.noPylong_small (by decide)
      · decide
  refine wpAny_mono (rest _ _ _ _ L I3) (fun fl s' p => ?_) fun _ _ x => x
  obtain ⟨⟨hf, tkf, rfl⟩, kk, p⟩ := p
  have hO : ([l].filter fun b => decide (b ≠ l)) = [] := by simp
  rw [hO] at kk
  obtain ⟨hs1, ts1, rfl, k1⟩ := k1
  have keepF : ∀ b o, (∃ o, s.heap.get? b = some o) → h'.get? b = some o → hf.get? b = some o := fun b o hb e => kk.keep b o (fun mu => by
    obtain ⟨ob, eb⟩ := hb
    have hlt := Heap.lt_size eb
    rcases mu with mu | ⟨y, mu⟩ | mu
    · subst hEnv; rw [mu] at hlt; exact Nat.lt_irrefl _ hlt
    · subst hEnv; exact absurd (Nat.lt_trans hlt (C.above y b mu)) (Nat.lt_irrefl _)
    · cases mu) (by simp) e
  have kp : KpH (some l) s.heap hf := by
    refine ⟨fun b o n e => ?_, fun l' Y e lk => ?_⟩
    · have hbl : b ≠ l := fun q => n (by rw [q])
      exact keepF b o ⟨o, e⟩ ((sb.2 b hbl).trans (k1.keep b o (by simp) (F.keep b o e)))
    · cases e
      obtain ⟨xa', k', t', vs', is', q1, q2, q3, q4, q5, q6⟩ := lk
      have e1 := IsList.uni q1 l1
      have e2 : xa' = xa ∧ k' = k := by injection e1 with e1; injection e1 with e1 e2; injection e1 with e1; injection e2 with e2; injection e2 with e2 e3; exact ⟨e1, e2⟩
      obtain ⟨rfl, rfl⟩ := e2
      refine ⟨xa', k' + 1, tk1, vs', is', l3.at fun o => keepF l o (let ⟨o, e, _⟩ := l1; ⟨o, e⟩), q2, ?_, q4, q5, by omega⟩
      have : h'.IsList xa' (List.toArray vs') := (IsList.uni q3 l2) ▸ l2h
      exact this.at fun o => keepF xa' o (let ⟨o, e, _⟩ := l2; ⟨o, e⟩)
  cases fl with
  | next => obtain ⟨_, _, _, _, _, q⟩ := p; exact q.elim
  | ret v =>
    obtain ⟨t, Xr, rv, _, rr, rfl, hr⟩ := p
    obtain ⟨tt, rfl⟩ := rv.int_inv
    exact ⟨⟨hf, tkf, rfl, kp⟩, _, .int .nil, rr, rfl, hr⟩
  | brk => exact p.elim
  | cont => exact p.elim
end Mine
end F12_part
section F13_part
open PySem PySem.Calls PyProof.Rows PySem.W
namespace Mine
variable {prog : Program} {w : World} {base : Heap} {mg : Str → Option Value}

theorem CompT_all {c : Cx} {σ : Sg} {α : Type} {scope : Scope} {elt target : Expr} {R : List AV → Prop} (l : List α) (f : α → AV) (P : AV → Prop)
    (h : ∀ C x, Lo c.base (cenv scope C c.env) → x ∈ l → TgC { c with env := cenv scope C c.env } (cws scope C) (Sg.free scope σ) target (f x) fun σ'' => EW { c with env := cenv scope C c.env } σ'' elt P)
    (r : ∀ acc : List AV, acc.length = l.length → (∀ u ∈ acc, P u) → R acc) : CompT c σ scope elt target [] (l.map f) R := by
  refine ⟨fun i acc => acc.length = i ∧ ∀ u ∈ acc, P u, ⟨rfl, fun _ m => nomatch m⟩, fun C i t acc L e hj => ?_, fun acc hj => ?_⟩
  · have hi : i < l.length := by simpa using (List.getElem?_eq_some_iff.mp e).1
    have et : t = f l[i] := by
      simp only [List.getElem?_map, List.getElem?_eq_getElem hi, Option.map_some] at e
      exact (Option.some.inj e).symm
    subst et
    refine fun O X E s v L' I r => wpAny_mono (h C l[i] L (List.getElem_mem _) O X E s v L' I r) (fun _ s' ⟨a, b, σ', I', q⟩ => ⟨a, b, σ', I', ?_⟩) fun _ _ x => x
    simp only [IfsW, if_true]
    refine EW.mono q fun u e => ?_
    refine ⟨by simp [hj.1], fun u' m => ?_⟩
    rcases List.mem_append.mp m with m | m
    · exact hj.2 u' m
    · rw [List.mem_singleton.mp m]; exact e
  · exact r acc (by simpa using hj.1) hj.2
theorem list_fun {α : Type} [Inhabited α] {f : α → AV} {P : α → Prop} {acc : List AV} {n : Nat} (hl : acc.length = n) (h : ∀ u ∈ acc, ∃ x, u = f x ∧ P x) : ∃ g : Nat → α, acc = (List.range n).map (fun i => f (g i)) ∧ ∀ i, i < n → P (g i) := by
  have : ∀ i, ∃ x : α, ∀ hi : i < n, acc[i]'(by omega) = f x ∧ P x := fun i => by
    by_cases hi : i < n
    · obtain ⟨x, e, p⟩ := h _ (List.getElem_mem (show i < acc.length by omega))
      exact ⟨x, fun _ => ⟨e, p⟩⟩
    · exact ⟨default, fun z => absurd z hi⟩
  obtain ⟨g, hg⟩ := Classical.axiomOfChoice this
  refine ⟨g, List.ext_getElem (by simp [hl]) fun i h1 h2 => ?_, fun i hi => (hg i hi).2⟩
  simp only [List.getElem_map, List.getElem_range]
  exact (hg i (by omega)).1

theorem law_matrix_ok (H : Fns base mg) (G : Glb base mg) {l : Addr} :
    Con prog w base mg (some l) "_law_matrix" 2 [.line] fun t => ∃ n F, 1 ≤ n ∧ n ≤ 3 ∧ t = .list (rowsT n n F) ∧ ∀ i j, i < n → j < n → -24 ≤ F i j ∧ F i j ≤ 24 := by
  obtain ⟨fa, o, pm, cd, doc, hm, ho, hd, hc⟩ := (H.at 26).f
  refine ⟨fa, hm, ⟨o, _, ho, hd⟩, callW_def (names := ["line"]) ho hd G.lim hc (fun vs h => ?_) rfl (by rfl) fun A L R Lo => ?_⟩
  · obtain ⟨x, rfl⟩ := len1 h; rfl
  refine SWs_cons (SW_asg (.inr ⟨rfl, rfl⟩) (EW_bin (EW_int (EW_fn G (H.at 20) (k := 1) R (EsW_cons (EW_name rfl (EsW_cons (EW_int (EsW_nil ⟨_, law_cell_ok (m := 3) (H.at 20) G (by decide), ?_⟩)))))))))
  rintro t ⟨r, rfl, hr⟩
  refine Op_add ?_
  obtain ⟨n, hn⟩ : ∃ n, n = r + 1 := ⟨_, rfl⟩
  have en : (1 : Int) + (r : Int) = (n : Int) := by omega
  rw [en]
  have hk : n < 2 ^ 60 := by omega
  refine SWs_cons (SW_asgComp rfl (CompOk.of rfl (by rfl)) rfl (It_up R.hd (EW_rng1 G (EW_name rfl ⟨n, rfl, 0, n, rfl, by omega, by omega, by rw [upL_len]; omega,
    CompT_all (List.range' 0 (n - 0)) (fun (i : Nat) => AV.int (i : Int)) (fun u => ∃ g : Nat → Int, u = AV.list (rowT n g) ∧ ∀ j, j < n → -12 ≤ g j ∧ g j ≤ 12) ?_ ?_⟩))))
  · intro C i Lo2 him
    refine TgC_name (.inl ⟨rfl, rfl⟩) (.head _) ?_ (by simp)
    refine EW_comp Lo2 (CompOk.of rfl (by rfl)) (It_up R.hd (EW_rng1 G (EW_name rfl ⟨n, rfl, 0, n, rfl, by omega, by omega, by rw [upL_len]; omega,
      CompT_all (List.range' 0 (n - 0)) (fun (i : Nat) => AV.int (i : Int)) (fun u => ∃ x : Int, u = AV.int x ∧ (-12 ≤ x ∧ x ≤ 12)) ?_ ?_⟩)))
    · intro C2 j Lo3 hjm
      refine TgC_name (.inl ⟨rfl, rfl⟩) (.head _) ?_ (by simp)
      refine EW_bin (EW_fn G (H.at 20) (k := 1) R (EsW_cons (EW_name rfl (EsW_cons (EW_int (EsW_nil ⟨_, law_cell_ok (m := 25) (H.at 20) G (by decide), ?_⟩))))))
      rintro t ⟨x, rfl, hx⟩
      exact EW_int (Op_sub ⟨_, rfl, by omega, by omega⟩)
    · intro acc hl hP
      obtain ⟨g, e, hg⟩ := list_fun (f := AV.int) (P := fun x => -12 ≤ x ∧ x ≤ 12) (n := n) (by simpa using hl) hP
      exact ⟨g, by rw [e]; rfl, hg⟩
  · intro acc hl hP
    obtain ⟨F, e, hF⟩ := list_fun (f := fun g => AV.list (rowT n g)) (P := fun g => ∀ j, j < n → -12 ≤ g j ∧ g j ≤ 12) (n := n) (by simpa using hl) hP
    have e2 : acc = rowsT n n F := e
    subst e2
    have plain : ∀ i j, i < n → j < n → -24 ≤ F i j ∧ F i j ≤ 24 := fun i j hi hj => by have := hF i hi j hj; omega
    refine SWs_cons (SW_if (TW_and (TW_cmp (EW_name rfl (EW_int (Op_gt ⟨_, rfl, ?_⟩))))))
    by_cases h1 : 1 < n
    · rw [if_pos (by simp; omega)]
      refine TW_and (TW_cmp (EW_fn G (H.at 20) (k := 1) R (EsW_cons (EW_name rfl (EsW_cons (EW_int (EsW_nil ⟨_, law_cell_ok (m := 4) (H.at 20) G (by decide), ?_⟩)))))))
      rintro t ⟨x, rfl, hx⟩
      refine EW_int (Op_eq ⟨_, rfl, ?_⟩)
      by_cases h2 : x = 0
      · rw [if_pos (by simp; omega)]
        refine TW_andN ?_
        rw [if_pos rfl]
        refine SWs_cons (SW_asgSub rfl (ownOne rfl) (EW_comp Lo (CompOk.of rfl (by rfl)) (It_list R.hd (EW_row (n := n) (k := n) (F := F) rfl hk (EW_int ⟨0, rfl, by omega, _, rfl, by rw [rowT_len]; omega, CompT_map (List.range n) (fun (j : Nat) => AV.int (F 0 j)) (fun (j : Nat) => AV.int (2 * F 0 j)) ?_ ?_⟩)))))
        · intro C j Lo2 hjm
          refine TgC_name (.inl ⟨rfl, rfl⟩) (.head _) ?_ (by simp)
          exact EW_bin (EW_int (EW_name rfl (Op_mul rfl (mulL (a := 2) (by decide)))))
        · have e3 : (List.range n).map (fun (j : Nat) => AV.int (2 * F 0 j)) = rowT n fun j => 2 * F 0 j := rfl
          rw [e3]
          refine EW_bin (EW_name rfl (EW_int (Op_sub ⟨((n - 1 : Nat) : Int), by congr 1; omega, by omega, by rw [rowsT_len]; omega, by rw [rowsT_len]; omega, ?_⟩)))
          rw [Int.toNat_natCast, rowsT_set]
          refine SWs_nil (SWs_cons (SW_retOwn rfl ⟨n, _, by omega, by omega, rfl, fun i j hi hj => ?_⟩))
          unfold putF
          split
          · have := hF 0 (by omega) j hj
            show -24 ≤ 2 * F 0 j ∧ 2 * F 0 j ≤ 24
            omega
          · exact plain i j hi hj
      · rw [if_neg (by simp; omega), if_neg (by simp)]
        exact SWs_nil (SWs_cons (SW_retOwn rfl ⟨n, F, by omega, by omega, rfl, plain⟩))
    · rw [if_neg (by simp; omega), if_neg (by simp)]
      exact SWs_nil (SWs_cons (SW_retOwn rfl ⟨n, F, by omega, by omega, rfl, plain⟩))
end Mine
end F13_part
section F14_part
open PySem PySem.Calls PyProof.Rows PySem.W
namespace Mine
variable {prog : Program} {w : World} {base : Heap} {mg : Str → Option Value}

theorem execs_app {env : Env} : ∀ (l l2 : List Stmt), execs (l ++ l2) env = (execs l env >>= fun f => match f with | .next => execs l2 env | f => pure f)
  | [], l2 => by
    have : execs [] env = pure .next := rfl
    rw [List.nil_append, this, pure_bind]
  | st :: l, l2 => by
    rw [List.cons_append, PySem.execs_cons, PySem.execs_cons, bind_assoc]
    congr 1
    funext f
    cases f with
    | next => exact execs_app l l2
    | _ => simp only [pure_bind]
theorem wpAny_execs_app {M : Model} {A : Around} {env : Env} {E : Value → Shared → Prop} {s : Shared} {l l2 : List Stmt} {Q : Flow → Shared → Prop}
    (h : wpAny M A (execs l env) (fun f s1 => match f with | .next => wpAny M A (execs l2 env) Q E s1 | f => Q f s1) E s) : wpAny M A (execs (l ++ l2) env) Q E s := by
  rw [execs_app]
  refine wpAny_bind (wpAny_mono h (fun f s1 h1 => ?_) fun _ _ x => x)
  cases f with
  | next => exact h1
  | _ => exact wpAny_pure h1

noncomputable def bmE : List Value := [.type "Exception", .type "BaseException", .type "object"]
theorem raise_own {c : Cx} {σ : Sg} {C : Addr} {x t : Str} {np p cpos pos : Pos} {k : Nat} {O X E s} {Q : Flow → Shared → Prop} (G : Glb c.base mg) (W : OwnCls x C bmE "Exception.__new__" mg c.base) (hh : c.A.handled = none) (I : Inv c.base c.env c.ln O X σ s.heap)
    (h : ∀ h' e vs tk, Heap.MadeExcOf s.heap h' e (.ref C) vs → E (.ref e) { s with heap := h', toks := tk })
    (hk : c.env.kindOf x = some .globalImplicit := by rfl) (hd : (x == ("__debug__" : Str)) = false := by decide) :
    wpAny (model c.prog c.w) c.A (exec (.Raise (some (.Call (.Name x np) [.Constant (.str t) k p] [] cpos)) none pos) c.env) Q E s := by
  obtain ⟨tl, N, nm, q, bs, hdct, sn, sub, ab, col, dd, k0, k1, k2, k3, k5, mN, hC, hN, hni, T⟩ := W.obj
  refine wpAny_Raise_call_subT (C := C) (nm := nm) (q := q) (N := N) (bs := bs) (bm := tl) (hdct := hdct) (sn := sn) (sub := sub) (ab := ab) (col := col) (dd := dd) (k0 := k0) (k1 := k1) (k2 := k2) (k3 := k3) (k5 := k5)
    PySem.F.excBase_Exception (mN := mN) (T.hasType PySem.F.excBase_Exception.hasBase) hh rfl hni (Name_function_global I.fk hk (loadGlobal_global (by rw [I.gl.1]; exact G.g.keeps I.bs) W.bound ⟨rfl, ?_⟩) hd)
  have he : starEach [.Constant (.str t) k p] c.env = (false, eval (.Constant (.str t) k p) c.env) :: starEach [] c.env := rfl
  have go : wpAny (model c.prog c.w) c.A (spliced (backTo cpos (starEach [.Constant (.str t) k p] c.env))) (fun vs s₂ => ∃ tk, vs = [.str t tk] ∧ s₂ = { s with toks := tk + 1 }) E s :=
    args_cons (Calls.Constant_str (args_nil ⟨_, rfl, rfl⟩)) he
  rw [he] at go ⊢
  refine Calls.evalArgs_plain (wpAny_mono go (fun vs s₂ h₂ => ?_) fun _ _ y => y)
  obtain ⟨tk, rfl, rfl⟩ := h₂
  exact ⟨rfl, by rw [sizeLine_eq]; exact Nat.le_of_ble_eq_true rfl, I.bs _ _ hC, hN.keeps I.bs, T.keeps I.bs, fun h' e hm => h h' e _ _ hm⟩

/-- what stands when an exception has left a call -/
noncomputable def RX (h0 h' : Heap) (outer : List Env) (e C t : Addr) (B : Heap) (vs : List Value) : Prop :=
  Heap.FlyingW B outer e (.ref C) (.ref t) h' ∧ h'.TupAt t vs ∧ B.get? t = none ∧ (∀ b o, b ∉ outer.filterMap (·.frame) → h0.get? b = some o → B.get? b = some o) ∧ h0.UpToSlots h'

theorem lift_raise (H : Fns base mg) (G : Glb base mg) {C : Addr} (W : OwnCls "NoInverse" C bmE "Exception.__new__" mg base) {n b first K : Nat} {F : Mx} {P pr : Nat → Nat} {fp : Addr} (hfp : mg "_law_product" = some (.ref fp)) (hb : 3 ≤ b) (hb2 : b ≤ 8) (hn : n ≤ 20)
    (hx : ∀ i j, i < n → j < n → (F i j).natAbs < 2 ^ 30) (hr : ∀ r ∈ listM n F, rsum r < 2 ^ 60) (hB : ∀ i, bnd ((listM n F).take i) < 2 ^ 60) (Ch : Chain first K P pr) (hK : bnd (listM n F) < pr K)
    (hno : ¬ ∃ k W, k < K ∧ noneUpto n F P k ∧ pr k ≤ bnd (listM n F) ∧ invF (P (k + 1)) n (restF (P (k + 1)) F) = some W) :
    ∃ a, mg "lifting_prime" = some (.ref a) ∧ Rdef base a ∧ ∀ (A : Around) (X : List Addr) (E : Value → Shared → Prop) (s : Shared) (vs : List Value) (outer : List Env) (Q : Value → Shared → Prop), Rm A 4 → A.frames = some outer → s.heap.FunFrames base outer → St0 base none X s.heap →
      RVs none X s.heap vs [sgnT b n F, .int first, .int b, .fn fp] → (∀ h' e t B vs' tk, RX s.heap h' outer e C t B vs' → E (.ref e) { s with heap := h', toks := tk }) → wpAny (model prog w) A (call (.ref a) vs) Q E s := by
  obtain ⟨fa, o, pm, cd, doc, hm, ho, hd, hc⟩ := (H.at 18).f
  refine ⟨fa, hm, ⟨o, _, ho, hd⟩, fun A X E s vs outer Q R hfr hff S r hE => ?_⟩
  have hlen : vs.length = 4 := r.len
  have hscope : chkP (scOf (stOf 18)) ["a", "first", "w", "mul"] = true := by rfl
  have hc' := hscope
  unfold chkP at hc'
  rw [Bool.and_eq_true, Bool.and_eq_true, List.all_eq_true] at hc'
  have n2 := nodupB_ok hc'.1.2
  have keys := cellsFrom_keys (scOf (stOf 18)).names (s.heap.objs.size + 1) [] n2 (fun _ m => (nomatch m)) .nil
  refine wpAny_call (call_cells (pm := pm) (doc := doc) (binds := (["a", "first", "w", "mul"] : List Str).zip vs) ?_ (S.bs _ _ ho) hd (G.lim.keeps S.bs) (hc.keeps S.bs) ?_ (fun x m => ?_) (fun h₁ tk FF CC => ?_))
  · have := R.dp
    show A.depth < 1000
    omega
  · obtain ⟨x, y, z, u, rfl⟩ := len4 hlen; rfl
  · have hx : x.1 ∈ (["a", "first", "w", "mul"] : List Str) := (List.of_mem_zip (a := x.1) (b := x.2) m).1
    have kk := hc'.2 x.1 hx
    by_cases q : (scOf (stOf 18)).names.lookup x.1 = some .local
    · exact .inl q
    · have q2 : (scOf (stOf 18)).names.lookup x.1 = some .cell := by simpa [q] using kk
      obtain ⟨c, hm⟩ := cellsFrom_has (scOf (stOf 18)).names (s.heap.objs.size + 1) [] (mem_of_lookup q2)
      exact .inr ⟨q2, by rw [lookup_of_nd keys hm]; rfl⟩
  obtain ⟨I, L⟩ := inv0 (name := nmOf (stOf 18)) (a := fa) (cd := cd) (scope := scOf (stOf 18)) rfl hscope (by simpa using hlen) S r FF CC
  have R' : Rm (A.deeper (envOfC (nmOf (stOf 18)) (scOf (stOf 18)) s.heap.objs.size fa cd)) 3 := ⟨R.hd, by have := R.dp; show A.depth + 1 + 3 < 900; omega, by have := R.un; show A.units + 3 + 100 * 3 < 9000; omega⟩
  have body : boOf (stOf 18) = (boOf (stOf 18)).take 2 ++ (boOf (stOf 18)).drop 2 := (List.take_append_drop 2 _).symm
  rw [body]
  refine wpAny_execs_app (wpAny_mono (lift_body (prog := prog) (w := w) (ln := none) H G hfp hb hb2 hn hx hr hB Ch hK R' L [] X _ ⟨h₁, s.gens, s.drawn, tk, s.os⟩ L I) (fun fl s1 p => ?_) fun _ _ x => x)
  obtain ⟨⟨h2, tk2, rfl⟩, kk, p⟩ := p
  cases fl with
  | ret v =>
    obtain ⟨t, Xr, rv, _, k, W, q0, q1, q2, q3, _⟩ := p
    exact absurd ⟨k, W, q0, q1, q2, q3⟩ hno
  | brk => exact p.elim
  | cont => exact p.elim
  | next =>
    obtain ⟨O2, X2, σ2, I2, g, k, q0, q1, q2⟩ := p
    refine wpAny_execs_cons (raise_own (c := ⟨prog, w, base, A.deeper (envOfC (nmOf (stOf 18)) (scOf (stOf 18)) s.heap.objs.size fa cd), envOfC (nmOf (stOf 18)) (scOf (stOf 18)) s.heap.objs.size fa cd, none⟩) (s := ⟨h2, s.gens, s.drawn, tk2, s.os⟩) G W R'.hd I2 fun h3 e vs' tk3 hm => ?_)
    -- old objects
    have old : ∀ b o, s.heap.get? b = some o → h2.get? b = some o := fun b o e => kk.keep b o (fun mu => by
      have hlt := Heap.lt_size e
      rcases mu with mu | ⟨y, mu⟩ | mu
      · rw [mu] at hlt; exact Nat.lt_irrefl _ hlt
      · exact absurd (Nat.lt_trans hlt (CC.above y b mu)) (Nat.lt_irrefl _)
      · cases mu) (by simp) (FF.keep b o e)
    have hnew : base.get? s.heap.objs.size = none := by
      cases e : base.get? s.heap.objs.size with
      | none => rfl
      | some o => exact absurd (Heap.lt_size (S.bs _ _ e)) (Nat.lt_irrefl _)
    have hLs : s.heap.get? s.heap.objs.size = none := get_size _
    obtain ⟨mL, nL⟩ := I2.ns
    have hf2 : h2.FunFrames base (envOfC (nmOf (stOf 18)) (scOf (stOf 18)) s.heap.objs.size fa cd :: outer) := by
      refine ⟨by show (scOf (stOf 18)).kind ≠ .module; decide, ?_, hff.of_keeps fun b o e _ => ⟨o, old b o e, rfl⟩⟩
      obtain ⟨oL, es, ep, e1, e2, _⟩ := nL
      exact ⟨s.heap.objs.size, oL, rfl, hnew, e1, fun vs q => by rw [e2] at q; cases q⟩
    have hin : ∀ env ∈ (envOfC (nmOf (stOf 18)) (scOf (stOf 18)) s.heap.objs.size fa cd :: outer), ∀ b, env.frame = some b → b ∈ (envOfC (nmOf (stOf 18)) (scOf (stOf 18)) s.heap.objs.size fa cd :: outer).filterMap (·.frame) := fun env he b hb => List.mem_filterMap.mpr ⟨env, he, hb⟩
    refine wpAny_leaves_madeW (base := hideAll h2 ((envOfC (nmOf (stOf 18)) (scOf (stOf 18)) s.heap.objs.size fa cd :: outer).filterMap (·.frame))) (Around.frames_deeper hfr) rfl (fun b o q => of_hideAll _ q) (funFrames_hide hf2 hin) hm fun h4 t x1 x2 x3 x4 => ?_
    refine hE h4 e t _ vs' tk3 ⟨x1, x2, x3, fun b o hb e => hideAll_get _ (old b o e) fun mm => ?_, (((Heap.UpToSlots.of_keeps old).trans (Heap.UpToSlots.of_keeps hm.keeps)).trans x4)⟩
    obtain ⟨env, he, hf⟩ := List.mem_filterMap.mp mm
    rcases List.mem_cons.mp he with rfl | he
    · have q : s.heap.objs.size = b := Option.some.inj hf
      rw [← q, hLs] at e; cases e
    · exact hb (List.mem_filterMap.mpr ⟨env, he, hf⟩)
end Mine
end F14_part
section F15_part
open PySem PySem.Calls PyProof.Rows PySem.W
namespace Mine
variable {prog : Program} {w : World} {base : Heap} {mg : Str → Option Value}

theorem SWs_app {c : Cx} {σ : Sg} {l l2 : List Stmt} {Q : Out → Prop} (h : SWs c σ l fun o => match o with | .next σ' => SWs c σ' l2 Q | .ret t => Q (.ret t)) : SWs c σ (l ++ l2) Q := fun O X E s L I => by
  refine wpAny_execs_app (wpAny_mono (h O X E s L I) (fun fl s1 h1 => ?_) fun _ _ x => x)
  obtain ⟨hs, k, h1⟩ := h1
  cases fl with
  | next =>
    obtain ⟨O', X', σ', I', g, h1⟩ := h1
    exact wpAny_mono (h1 O' X' E s1 L I') (fun _ _ p => SPost.up hs k g I.xs p) fun _ _ x => x
  | ret v => exact ⟨hs, k, h1⟩
  | brk => exact h1.elim
  | cont => exact h1.elim

/-- what the plain law says of one search -/
structure FoundOk (n : Nat) (F : Mx) (first : Nat) : Prop where
  bd : (detL n F).natAbs ≤ bnd (listM n F)
  ch : ∃ K P pr, Chain first K P pr ∧ bnd (listM n F) < pr K ∧
    ((detL n F = 0 ∧ ¬ ∃ k W, k < K ∧ noneUpto n F P k ∧ pr k ≤ bnd (listM n F) ∧ invF (P (k + 1)) n (restF (P (k + 1)) F) = some W) ∨
     (detL n F ≠ 0 ∧ (∀ k, k ≤ K → noneUpto n F P k → pr k ≤ bnd (listM n F)) ∧
      ∀ k W, k < K → noneUpto n F P k → invF (P (k + 1)) n (restF (P (k + 1)) F) = some W → Least (goodP (detL n F)) first (P (k + 1)) ∧ P (k + 1) < 5000 ∧ PrimeOk n F (P (k + 1))))

theorem lift_ok (H : Fns base mg) (G : Glb base mg) {n b first K : Nat} {F : Mx} {P pr : Nat → Nat} {fp : Addr} {ln : Option Addr} (hfp : mg "_law_product" = some (.ref fp)) (hb : 3 ≤ b) (hb2 : b ≤ 8) (hn : n ≤ 20)
    (hx : ∀ i j, i < n → j < n → (F i j).natAbs < 2 ^ 30) (hr : ∀ r ∈ listM n F, rsum r < 2 ^ 60) (hB : ∀ i, bnd ((listM n F).take i) < 2 ^ 60) (Ch : Chain first K P pr) (hK : bnd (listM n F) < pr K)
    (hnext : ∀ k, k ≤ K → noneUpto n F P k → pr k ≤ bnd (listM n F)) :
    Con prog w base mg ln "lifting_prime" 4 [sgnT b n F, .int first, .int b, .fn fp] fun t => ∃ k W, k < K ∧ noneUpto n F P k ∧ invF (P (k + 1)) n (restF (P (k + 1)) F) = some W ∧ t = .tup [.int (P (k + 1)), invT n (some W)] := by
  obtain ⟨fa, o, pm, cd, doc, hm, ho, hd, hc⟩ := (H.at 18).f
  refine ⟨fa, hm, ⟨o, _, ho, hd⟩, callW_def (names := ["a", "first", "w", "mul"]) ho hd G.lim hc (fun vs h => ?_) rfl (by rfl) fun A L R Lo => ?_⟩
  · obtain ⟨x, y, z, u, rfl⟩ := len4 h; rfl
  have body : boOf (stOf 18) = (boOf (stOf 18)).take 2 ++ (boOf (stOf 18)).drop 2 := (List.take_append_drop 2 _).symm
  rw [body]
  refine SWs_app (SWs_mono (lift_body H G hfp hb hb2 hn hx hr hB Ch hK R Lo) ?_)
  rintro (σ | t) h
  · obtain ⟨k, q0, q1, q2⟩ := h
    have := hnext k q0 q1
    omega
  · obtain ⟨k, W, q0, q1, q2, q3, q4⟩ := h
    exact ⟨k, W, q0, q1, q3, q4⟩

noncomputable def hdr (b n first : Nat) (F : Mx) : Sg := [vV "rows" (.list (rowsT n n F)), vI "first" first, vI "w" b, vI "whole" (detL n F), vV "a" (sgnT b n F)]
theorem found_head (H : Fns base mg) (G : Glb base mg) {n b first : Nat} {F : Mx} {fp fa L : Addr} {cd : Value} {A : Around} {ln : Option Addr} {Q : Out → Prop} (hfp : mg "_law_product" = some (.ref fp)) (hb : 3 ≤ b) (hb2 : b ≤ 8) (hn1 : 1 ≤ n) (hn : n ≤ 20)
    (hx : ∀ i j, i < n → j < n → (F i j).natAbs < 2 ^ 30) (hr : ∀ r ∈ listM n F, rsum r < 2 ^ 60) (hB : ∀ i, bnd ((listM n F).take i) < 2 ^ 60) (hle : (detL n F).natAbs ≤ bnd (listM n F))
    (R : Rm A 21) (Lo : Mine.Lo base (envOfC (nmOf (stOf 29)) (scOf (stOf 29)) L fa cd)) (q : ∀ σ', Sg.le (hdr b n first F) σ' → Q (.next σ')) :
    SWs ⟨prog, w, base, A, envOfC (nmOf (stOf 29)) (scOf (stOf 29)) L fa cd, ln⟩ (sg0 ["rows", "first", "w"] [.list (rowsT n n F), .int first, .int b]) ((boOf (stOf 29)).take 3) Q := by
  have hbig := hB (listM n F).length
  rw [List.take_length] at hbig
  refine SWs_cons (SW_asg (.inl ⟨rfl, rfl⟩) (EW_fn G (H.at 24) R (EsW_cons (EW_name rfl (EsW_nil ⟨_, law_determinant_ok (H.at 24) G n F hn1 hn hx, ?_⟩))) (hk := by omega)))
  rintro t rfl
  have hmo := m_of_ok (prog := prog) (w := w) (ln := ln) (H.at 4) (H.at 8) (H.at 10) G (m := listM n F) hb hb2 (by simp [listM]; omega) (fun r hrm => by
    obtain ⟨i, hi, rfl⟩ := List.mem_map.mp hrm
    simp; omega) (fun r hrm x hxm => by
    obtain ⟨i, hi, rfl⟩ := List.mem_map.mp hrm
    obtain ⟨j, hj, rfl⟩ := List.mem_map.mp hxm
    exact hx i j (List.mem_range.mp hi) (List.mem_range.mp hj))
  rw [liM_listM, sgnT_listM] at hmo
  refine SWs_cons (SW_asg (.inl ⟨rfl, rfl⟩) (EW_fn G (H.at 10) (k := 3) R (EsW_cons (EW_name rfl (EsW_cons (EW_name rfl (EsW_nil ⟨_, hmo, ?_⟩)))))))
  rintro t rfl
  have hdb := det_bound_ok (prog := prog) (w := w) (ln := ln) (H.at 6) (H.at 15) (H.at 21) (H.at 22) (H.at 23) (H.at 16) G (m := listM n F) hfp hb hb2 (fun r hrm => by
    obtain ⟨i, hi, rfl⟩ := List.mem_map.mp hrm
    simp; omega) (fun r hrm x hxm => by
    obtain ⟨i, hi, rfl⟩ := List.mem_map.mp hrm
    obtain ⟨j, hj, rfl⟩ := List.mem_map.mp hxm
    exact hx i j (List.mem_range.mp hi) (List.mem_range.mp hj)) hr hB
  rw [sgnT_listM] at hdb
  obtain ⟨pa, po, ppm, pcd, pdoc, phm, pho, phd, phc⟩ := (H.at 23).f
  have hpa : pa = fp := by
    have h1 : mg "_law_product" = some (.ref pa) := phm
    rw [hfp] at h1; cases h1; rfl
  subst hpa
  refine SWs_cons (SW_if (TW_cmp (EW_fn G (H.at 22) (k := 1) R (EsW_cons (EW_fn G (H.at 16) (k := 3) R (EsW_cons (EW_name rfl (EsW_cons (EW_name rfl (EsW_cons (EW_nameG G hfp (EsW_nil ⟨_, hdb, ?_⟩)))))))))))) 
  rintro t rfl
  have ll := dg_lenle (b := b) hb hbig
  refine EsW_cons (EW_name rfl (EsW_nil ⟨_, law_number_ok (H.at 22) G hb2 (by omega) (by rw [dg_num (by omega)]; exact hbig), ?_⟩))
  rintro t rfl
  refine EW_bi G (by decide) (f := .builtin "abs") (by decide +kernel) (.inl ⟨_, rfl⟩) (EsW_cons (EW_name rfl (EsW_nil (BiW_abs (Op_lt ⟨_, rfl, ?_⟩)))))
  rw [dg_num (by omega), if_neg (by simp only [decide_eq_true_eq]; split <;> omega)]
  exact SWs_nil (SWs_nil (q _ (Sg.le_cons rfl (Sg.le_cons rfl (Sg.le_cons rfl (Sg.le_cons rfl (Sg.le_cons rfl Sg.le_nil)))))))

/-- what a call keeps that may have caught an exception: the frames around it up to their slots -/
structure KpF (outer : List Env) (h h' : Heap) : Prop where
  keep : ∀ b o, b ∉ outer.filterMap (·.frame) → h.get? b = some o → h'.get? b = some o
  up : h.UpToSlots h'
theorem KpF.of {outer h h'} (k : ∀ b o, h.get? b = some o → h'.get? b = some o) : KpF outer h h' := ⟨fun b o _ e => k b o e, .of_keeps k⟩

section
variable {c : Cx} {σ : Sg}
theorem SW_try {body orelse : List Stmt} {h₀ : ExceptHandler} {hs : List ExceptHandler} {pos : Pos} {Q : Out → Prop} (h : SWs c σ body fun o => match o with | .next σ' => SWs c σ' orelse Q | .ret t => Q (.ret t)) : SW c σ (.Try body (h₀ :: hs) orelse [] pos) Q := fun O X E s L I => by
  refine wpAny_Try_except (wpAny_mono (h O X (fun _ _ => False) s L I) (fun fl s1 h1 => ?_) fun _ _ x => x.elim)
  obtain ⟨hs, k, h1⟩ := h1
  cases fl with
  | next =>
    obtain ⟨O', X', σ', I', g, h1⟩ := h1
    exact wpAny_mono (h1 O' X' E s1 L I') (fun _ _ p => SPost.up hs k g I.xs p) fun _ _ x => x
  | ret v => exact ⟨hs, k, h1⟩
  | brk => exact h1.elim
  | cont => exact h1.elim
end

theorem found_ok (H : Fns base mg) (G : Glb base mg) {n b first : Nat} {F : Mx} {fp : Addr} {ln : Option Addr} (hfp : mg "_law_product" = some (.ref fp)) (hb : 3 ≤ b) (hb2 : b ≤ 8) (hn1 : 1 ≤ n) (hn : n ≤ 20)
    (hx : ∀ i j, i < n → j < n → (F i j).natAbs < 2 ^ 30) (hr : ∀ r ∈ listM n F, rsum r < 2 ^ 60) (hB : ∀ i, bnd ((listM n F).take i) < 2 ^ 60) (K0 : FoundOk n F first) (hd0 : detL n F ≠ 0) :
    Con prog w base mg ln "_law_found_right" 22 [.list (rowsT n n F), .int first, .int b] fun t => t = .bool true := by
  obtain ⟨fa, o, pm, cd, doc, hm, ho, hd, hc⟩ := (H.at 29).f
  obtain ⟨K, P, pr, Ch, hK, hz | ⟨_, hnext, hfound⟩⟩ := K0.ch
  · exact absurd hz.1 hd0
  refine ⟨fa, hm, ⟨o, _, ho, hd⟩, callW_def (names := ["rows", "first", "w"]) ho hd G.lim hc (fun vs h => ?_) rfl (by rfl) fun A L R Lo => ?_⟩
  · obtain ⟨x, y, z, rfl⟩ := len3 h; rfl
  have body : boOf (stOf 29) = (boOf (stOf 29)).take 3 ++ (boOf (stOf 29)).drop 3 := (List.take_append_drop 3 _).symm
  rw [body]
  refine SWs_app (found_head H G hfp hb hb2 hn1 hn hx hr hB K0.bd R Lo fun σ' hle => SWs_le hle ?_)
  obtain ⟨pa, po, ppm, pcd, pdoc, phm, pho, phd, phc⟩ := (H.at 23).f
  have hpa : pa = fp := by
    have h1 : mg "_law_product" = some (.ref pa) := phm
    rw [hfp] at h1; cases h1; rfl
  subst hpa
  refine SWs_cons (SW_try (SWs_cons (SW_tup R.hd (EW_fn G (H.at 18) (k := 4) R (EsW_cons (EW_name rfl (EsW_cons (EW_name rfl (EsW_cons (EW_name rfl (EsW_cons (EW_nameG G hfp (EsW_nil ⟨_, lift_ok H G hfp hb hb2 hn hx hr hB Ch hK hnext, ?_⟩)))))))))))))
  rintro t ⟨k, W, hk, hno, hW, rfl⟩
  obtain ⟨hL, hP5, PK⟩ := hfound k W hk hno hW
  obtain ⟨u1, u2⟩ := PK.unit W hW
  have hP2 := (isP_iff.mp (by have := hL.2.1; unfold goodP at this; rw [Bool.and_eq_true] at this; exact this.1 : isP (P (k + 1)) = true)).1
  refine ⟨_, rfl, rfl, AW_name (.inl ⟨rfl, rfl⟩) (AW_name (.inl ⟨rfl, rfl⟩) ?_)⟩
  refine SWs_nil (SWs_nil (SWs_cons (SW_ret (EW_and (EW_cmp (EW_name rfl (EW_int (Op_ne ⟨_, rfl, ?_⟩))))))))
  rw [if_pos (by simpa using hd0)]
  refine EW_and (EW_cmp (EW_name rfl (EW_fn G (H.at 28) (k := 1) R (EsW_cons (EW_name rfl (EsW_cons (EW_name rfl (EsW_nil ⟨_, law_prime_behind_ok (H.at 28) G hL.1 hL.2.1 hP5, ?_⟩))))))))
  rintro t ⟨r, rfl, hLr⟩
  have er := hLr.uniq hL
  subst er
  refine Op_eq ⟨_, rfl, ?_⟩
  rw [if_pos (by simp)]
  exact EW_one (EW_fn G (H.at 25) (k := 1) R (EsW_cons (EW_name rfl (EsW_cons (EW_name rfl (EsW_cons (EW_name rfl (EsW_nil ⟨_, law_is_unit_ok (H.at 25) G hP2 (by omega) (by omega) hx u1 u2, fun t e => e⟩))))))))
end Mine
end F15_part
section F16_part
open PySem PySem.Calls PyProof.Rows PySem.W
namespace Mine
variable {prog : Program} {w : World} {base : Heap} {mg : Str → Option Value}

theorem eval_call_raw {c : Cx} {σ : Sg} {x : Str} {px pos : Pos} {e : Expr} {args : List Expr} {a : Addr} {O X E s} {Q : Value → Shared → Prop} (G : Glb c.base mg) (hm : mg x = some (.ref a)) (hr : Rdef c.base a) (I : Inv c.base c.env c.ln O X σ s.heap)
    (h : wpAny (model c.prog c.w) c.A (spliced (backTo pos (starEach (e :: args) c.env))) (fun vs s2 => (∀ b o, c.base.get? b = some o → s2.heap.get? b = some o) ∧ wpAny (model c.prog c.w) c.A (call (.ref a) vs) Q E s2) E s)
    (hk : c.env.kindOf x = some .globalImplicit := by rfl) (hd : (x == ("__debug__" : Str)) = false := by decide)
    (he : ∀ env, starEach (e :: args) env = (false, eval e env) :: starEach args env := by intro _; rfl)
    (hc : ∀ env, eval (.Call (.Name x px) (e :: args) [] pos) env = (do callWith pos (← eval (.Name x px) env) [] (backTo pos (starEach (e :: args) env)) (backToKw pos (keywordEach [] env))) := by intro _; rfl) :
    wpAny (model c.prog c.w) c.A (eval (.Call (.Name x px) (e :: args) [] pos) c.env) Q E s := by
  obtain ⟨o, fd, hf, hfd⟩ := hr
  refine Call_ (Name_function_global I.fk hk (loadGlobal_global (by rw [I.gl.1]; exact G.g.keeps I.bs) hm ?_) hd) (hc _)
  exact callWith_def hfd (wpAny_mono h (fun vs s2 h2 => ⟨h2.1 _ _ hf, h2.2⟩) fun _ _ x => x) (he _)

theorem EsW_run {c : Cx} {σ : Sg} {es : List Expr} {R : List AV → Prop} {O X E s} {pos : Pos} (h : EsW c σ es R) (I : Inv c.base c.env c.ln O X σ s.heap) :
    wpAny (model c.prog c.w) c.A (spliced (backTo pos (starEach es c.env))) (fun vs s' => Kp c.ln s s' ∧ ∃ ts, RVs c.ln X s'.heap vs ts ∧ R ts) E s := h O X E s pos I

/-- the handler of an own class takes the exception -/
theorem caught {A : Around} {C : Addr} (G : Glb base mg) (W : OwnCls "NoInverse" C bmE "Exception.__new__" mg base) {env : Env} {outer : List Env} {s' : Shared} {e t : Addr} {B : Heap} {b₀ : Stmt} {suite : List Stmt} {np pos : Pos} {rest : List ExceptHandler} {Q : Flow → Shared → Prop} {E : Value → Shared → Prop}
    (hfr : A.frames = some (env :: outer)) (hfl : env.scope.kind = .function) (hgl : env.globals = mainGlobals ∧ env.builtins = builtinsNs) (hL : ∃ L, env.frame = some L)
    (R : Heap.FlyingW B (env :: outer) e (.ref C) (.ref t) s'.heap) (hb : ∀ b o, base.get? b = some o → B.get? b = some o) (hx : env.kindOf ("NoInverse" : Str) = some .globalImplicit)
    (k : ∀ h', (∀ b o, B.get? b = some o → h'.get? b = some o) → s'.heap.UpToSlots h' → wpAny (model prog w) (A.mark (some (.ref e))) (execs (b₀ :: suite) env) Q (fun _ _ => False) { s' with heap := h' }) :
    wpAny (model prog w) A (noteFrame (.ref e) env) (fun _ s₂ => wpAny (model prog w) A (setFlight (.ref e) none) (fun _ s₃ =>
      wpAny (model prog w) A (handleBy (.ref e) env (.ExceptHandler (some (.Name "NoInverse" np)) none (b₀ :: suite) pos :: rest)) Q E s₃) E s₂) E s' := by
  obtain ⟨L, hL⟩ := hL
  refine wpAny_looks_onW hfr hL R fun h₄ hheld₄ hsm₄ => ?_
  refine wpAny_landsW hheld₄ fun h₅ hheld hsm₅' => ?_
  have hsm₅ := hsm₄.trans hsm₅'
  have b5 : ∀ b o, base.get? b = some o → h₅.get? b = some o := fun b o q => hheld.1 b o (hb b o q)
  obtain ⟨ob, hob, hobc⟩ := hheld.there
  refine wpAny_handleBy_cons (codeAny_handlers_test (Name_function_global hfl hx (loadGlobal_global (by rw [hgl.1]; exact G.g.keeps b5) W.bound ?_) (by decide))) (by intro q; cases q)
  obtain ⟨bm, N, nm, qn, bs, hdct, sn, sub, ab, col, dd, k0, k1, k2, k3, k5, mN, hC, hN, hni, TL⟩ := (W.keeps b5).obj
  refine wpAny_excMatches_sub_self hC hob hobc (TL.hasType PySem.F.excBase_Exception.hasBase) (codeAny_handlers_suite ?_)
  refine lands_againW hheld fun h₆ hfl₆ hsm₆ => ?_
  exact wpAny_mono (k h₆ hfl₆.1 (hsm₅.trans hsm₆)) (fun _ _ x => x) fun _ _ x => x.elim

theorem found_raise (H : Fns base mg) (G : Glb base mg) {C : Addr} (W : OwnCls "NoInverse" C bmE "Exception.__new__" mg base) {n b first : Nat} {F : Mx} {fp : Addr} (hfp : mg "_law_product" = some (.ref fp)) (hb : 3 ≤ b) (hb2 : b ≤ 8) (hn1 : 1 ≤ n) (hn : n ≤ 20)
    (hx : ∀ i j, i < n → j < n → (F i j).natAbs < 2 ^ 30) (hr : ∀ r ∈ listM n F, rsum r < 2 ^ 60) (hB : ∀ i, bnd ((listM n F).take i) < 2 ^ 60) (K0 : FoundOk n F first) (hd0 : detL n F = 0) :
    ∃ a, mg "_law_found_right" = some (.ref a) ∧ Rdef base a ∧ ∀ (A : Around) (X : List Addr) (E : Value → Shared → Prop) (s : Shared) (vs : List Value) (outer : List Env), Rm A 22 → A.frames = some outer → s.heap.FunFrames base outer → St0 base none X s.heap →
      RVs none X s.heap vs [.list (rowsT n n F), .int first, .int b] → wpAny (model prog w) A (call (.ref a) vs) (fun v s' => (∃ h' tk, s' = { s with heap := h', toks := tk }) ∧ KpF outer s.heap s'.heap ∧ v = .bool true) E s := by
  obtain ⟨fa, o, pm, cd, doc, hm, ho, hd, hc⟩ := (H.at 29).f
  obtain ⟨K, P, pr, Ch, hK, ⟨_, hnone⟩ | hz⟩ := K0.ch
  rotate_left
  · exact absurd hd0 hz.1
  refine ⟨fa, hm, ⟨o, _, ho, hd⟩, fun A X E s vs outer R hfr hff S r => ?_⟩
  have hlen : vs.length = 3 := r.len
  have hscope : chkP (scOf (stOf 29)) ["rows", "first", "w"] = true := by rfl
  have hc' := hscope
  unfold chkP at hc'
  rw [Bool.and_eq_true, Bool.and_eq_true, List.all_eq_true] at hc'
  have n2 := nodupB_ok hc'.1.2
  have keys := cellsFrom_keys (scOf (stOf 29)).names (s.heap.objs.size + 1) [] n2 (fun _ m => (nomatch m)) .nil
  refine wpAny_call (call_cells (pm := pm) (doc := doc) (binds := (["rows", "first", "w"] : List Str).zip vs) ?_ (S.bs _ _ ho) hd (G.lim.keeps S.bs) (hc.keeps S.bs) ?_ (fun x m => ?_) (fun h₁ tk FF CC => ?_))
  · have := R.dp
    show A.depth < 1000
    omega
  · obtain ⟨x, y, z, rfl⟩ := len3 hlen; rfl
  · have hx : x.1 ∈ (["rows", "first", "w"] : List Str) := (List.of_mem_zip (a := x.1) (b := x.2) m).1
    have kk := hc'.2 x.1 hx
    by_cases q : (scOf (stOf 29)).names.lookup x.1 = some .local
    · exact .inl q
    · have q2 : (scOf (stOf 29)).names.lookup x.1 = some .cell := by simpa [q] using kk
      obtain ⟨c, hm⟩ := cellsFrom_has (scOf (stOf 29)).names (s.heap.objs.size + 1) [] (mem_of_lookup q2)
      exact .inr ⟨q2, by rw [lookup_of_nd keys hm]; rfl⟩
  obtain ⟨I, L⟩ := inv0 (name := nmOf (stOf 29)) (a := fa) (cd := cd) (scope := scOf (stOf 29)) rfl hscope (by simpa using hlen) S r FF CC
  have R' : Rm (A.deeper (envOfC (nmOf (stOf 29)) (scOf (stOf 29)) s.heap.objs.size fa cd)) 21 := ⟨R.hd, by have := R.dp; show A.depth + 1 + 21 < 900; omega, by have := R.un; show A.units + 3 + 100 * 21 < 9000; omega⟩
  have body : boOf (stOf 29) = (boOf (stOf 29)).take 3 ++ (boOf (stOf 29)).drop 3 := (List.take_append_drop 3 _).symm
  rw [body]
  refine wpAny_execs_app (wpAny_mono (found_head (prog := prog) (w := w) (ln := none) (Q := fun o => match o with | .next σ' => Sg.le (hdr b n first F) σ' | .ret _ => False) H G hfp hb hb2 hn1 hn hx hr hB K0.bd R' L (fun σ' h => h) [] X _ ⟨h₁, s.gens, s.drawn, tk, s.os⟩ L I) (fun fl s1 p => ?_) fun _ _ x => x)
  obtain ⟨⟨h2, tk2, rfl⟩, kk, p⟩ := p
  cases fl with
  | ret v => obtain ⟨t, Xr, rv, _, q⟩ := p; exact q.elim
  | brk => exact p.elim
  | cont => exact p.elim
  | next =>
    obtain ⟨O2, X2, σ2, I2', g, hle⟩ := p
    have I2 := I2'.le hle
    generalize hEnv : envOfC (nmOf (stOf 29)) (scOf (stOf 29)) s.heap.objs.size fa cd = env at *
    have old2 : ∀ b o, s.heap.get? b = some o → b ≠ env.locals ∧ ∀ y, (y, b) ∉ env.cells := fun b o e => by
      have hlt := Heap.lt_size e
      subst hEnv
      exact ⟨fun mu => by rw [mu] at hlt; exact Nat.lt_irrefl _ hlt, fun y mu => absurd (Nat.lt_trans hlt (CC.above y b mu)) (Nat.lt_irrefl _)⟩
    have old : ∀ b o, s.heap.get? b = some o → h2.get? b = some o := fun b o e => kk.keep b o (fun mu => by
      rcases mu with mu | ⟨y, mu⟩ | mu
      · exact (old2 b o e).1 mu
      · exact (old2 b o e).2 y mu
      · cases mu) (by simp) (FF.keep b o e)
    have hnew : base.get? s.heap.objs.size = none := by
      cases e : base.get? s.heap.objs.size with
      | none => rfl
      | some o => exact absurd (Heap.lt_size (S.bs _ _ e)) (Nat.lt_irrefl _)
    have hLs : s.heap.get? s.heap.objs.size = none := get_size _
    have hfrE : env.frame = some s.heap.objs.size := by subst hEnv; rfl
    have hloc : env.locals = s.heap.objs.size := by subst hEnv; rfl
    obtain ⟨pa, po, ppm, pcd, pdoc, phm, pho, phd, phc⟩ := (H.at 23).f
    have hpa : pa = fp := by
      have h1 : mg "_law_product" = some (.ref pa) := phm
      rw [hfp] at h1; cases h1; rfl
    subst hpa
    obtain ⟨la, hla, hrl, hraise⟩ := lift_raise (prog := prog) (w := w) H G W hfp hb hb2 hn hx hr hB Ch hK hnone
    subst hEnv
    refine wpAny_execs_cons (wpAny_Try_except (wpAny_execs_cons (Assign_Tuple (eval_call_raw (c := ⟨prog, w, base, A.deeper (envOfC (nmOf (stOf 29)) (scOf (stOf 29)) s.heap.objs.size fa cd), envOfC (nmOf (stOf 29)) (scOf (stOf 29)) s.heap.objs.size fa cd, none⟩) (s := ⟨h2, s.gens, s.drawn, tk2, s.os⟩) G hla hrl I2 ?_) rfl rfl)))
    refine wpAny_mono (EsW_run (c := ⟨prog, w, base, A.deeper (envOfC (nmOf (stOf 29)) (scOf (stOf 29)) s.heap.objs.size fa cd), envOfC (nmOf (stOf 29)) (scOf (stOf 29)) s.heap.objs.size fa cd, none⟩) (s := ⟨h2, s.gens, s.drawn, tk2, s.os⟩) (R := fun ts => ts = [sgnT b n F, .int first, .int b, .fn pa]) ?_ I2) (fun vs3 s3 h3 => ?_) fun _ _ x => x
    · exact EsW_cons (EW_name rfl (EsW_cons (EW_name rfl (EsW_cons (EW_name rfl (EsW_cons (EW_nameG G hfp (EsW_nil rfl))))))))
    obtain ⟨k3, ts, r3, rfl⟩ := h3
    obtain ⟨h3, t3, rfl, k3⟩ := k3
    have I3 := I2.kp k3
    refine ⟨I3.bs, ?_⟩
    have old3 : ∀ b o, s.heap.get? b = some o → h3.get? b = some o := fun b o e => k3.keep b o (by simp) (old b o e)
    have hf3 : h3.FunFrames base (envOfC (nmOf (stOf 29)) (scOf (stOf 29)) s.heap.objs.size fa cd :: outer) := by
      refine ⟨by show (scOf (stOf 29)).kind ≠ .module; decide, ?_, hff.of_keeps fun b o e _ => ⟨o, old3 b o e, rfl⟩⟩
      obtain ⟨mL, oL, es, ep, e1, e2, _⟩ := I3.ns
      exact ⟨s.heap.objs.size, oL, rfl, hnew, e1, fun vs q => by rw [e2] at q; cases q⟩
    have frE : ∀ {b o}, s.heap.get? b = some o → b ∉ outer.filterMap (·.frame) → b ∉ (envOfC (nmOf (stOf 29)) (scOf (stOf 29)) s.heap.objs.size fa cd :: outer).filterMap (·.frame) := fun {b o} e n m => by
      obtain ⟨env', he, hf⟩ := List.mem_filterMap.mp m
      rcases List.mem_cons.mp he with rfl | he
      · have q : s.heap.objs.size = b := Option.some.inj hf
        rw [← q, hLs] at e; cases e
      · exact n (List.mem_filterMap.mpr ⟨env', he, hf⟩)
    have bfr : ∀ b o, base.get? b = some o → b ∉ (envOfC (nmOf (stOf 29)) (scOf (stOf 29)) s.heap.objs.size fa cd :: outer).filterMap (·.frame) := fun b o e m => by
      have := (hf3.mem m).1
      rw [this] at e; cases e
    refine hraise _ X2 _ ⟨h3, s.gens, s.drawn, t3, s.os⟩ vs3 _ _ (R'.le (by decide)) (Around.frames_deeper hfr) hf3 I3.st r3 fun h4 e t B vs' t4 hRX => ?_
    obtain ⟨x1, x2, x3, x4, x5⟩ := hRX
    refine caught (A := A.deeper (envOfC (nmOf (stOf 29)) (scOf (stOf 29)) s.heap.objs.size fa cd)) G W (Around.frames_deeper hfr) rfl ⟨rfl, rfl⟩ ⟨_, rfl⟩ x1 (fun b o q => x4 b o (bfr b o q) (I3.bs b o q)) rfl fun h5 y1 y2 => ?_
    have up5 : h3.UpToSlots h5 := x5.trans y2
    have I5 : Inv base (envOfC (nmOf (stOf 29)) (scOf (stOf 29)) s.heap.objs.size fa cd) none [] [] [vI "whole" (detL n F)] h5 := by
      obtain ⟨mL, nL⟩ := I3.ns
      refine { fk := rfl, gl := ⟨rfl, rfl⟩, ns := ⟨mL, up5.ns nL⟩, rd := fun x t g => ?_, cs := fun y c m => (nomatch m), ap := .nil, ox := fun _ m => (nomatch m), ob := fun _ m => (nomatch m), xs := fun _ m => (nomatch m), bs := fun b o q => y1 b o (x4 b o (bfr b o q) (I3.bs b o q)), li := fun _ e => (nomatch e) }
      unfold Sg.get at g
      split at g
      · rename_i q; subst q; cases g
        obtain ⟨v, rd, lr⟩ := I3.rd "whole" (.val (.int (detL n F))) rfl
        obtain ⟨tk, rfl⟩ := RV.int_inv lr
        refine ⟨.int (detL n F) tk, ?_, .int .nil⟩
        rcases rd with ⟨a1, m1, n1, e1⟩ | ⟨a1, c1, k1, n1⟩
        · exact .inl ⟨a1, m1, up5.ns n1, e1⟩
        · cases k1
      · cases g
    have fin : SWs ⟨prog, w, base, (A.deeper (envOfC (nmOf (stOf 29)) (scOf (stOf 29)) s.heap.objs.size fa cd)).mark (some (.ref e)), envOfC (nmOf (stOf 29)) (scOf (stOf 29)) s.heap.objs.size fa cd, none⟩ [vI "whole" (detL n F)]
        (match (boOf (stOf 29))[3]? with | some (Stmt.Try _ (ExceptHandler.ExceptHandler _ _ b _ :: _) _ _ _) => b | _ => []) fun o => match o with | .ret t => t = .bool true | .next _ => False :=
      SWs_cons (SW_ret (EW_cmp (EW_name rfl (EW_int (Op_eq (by rw [hd0]; rfl))))))
    refine wpAny_mono (fin [] [] _ ⟨h5, s.gens, s.drawn, t4, s.os⟩ L I5) (fun fl s6 p => ?_) fun _ _ x => x
    obtain ⟨⟨h6, t6, rfl⟩, k6, p⟩ := p
    cases fl with
    | next => obtain ⟨_, _, _, _, _, q⟩ := p; exact q.elim
    | brk => exact p.elim
    | cont => exact p.elim
    | ret v =>
      obtain ⟨t, Xr, rv, _, rfl⟩ := p
      refine ⟨⟨h6, t6, rfl⟩, ⟨fun b o nb eb => ?_, fun b o eb hnf => ?_⟩, rv.bool_inv⟩
      · refine k6.keep b o (fun mu => ?_) (by simp) (y1 b o (x4 b o (frE eb nb) (old3 b o eb)))
        rcases mu with mu | ⟨y, mu⟩ | mu
        · exact (old2 b o eb).1 mu
        · exact (old2 b o eb).2 y mu
        · cases mu
      · obtain ⟨sl, e5⟩ := up5 b o (old3 b o eb) hnf
        refine ⟨sl, k6.keep b _ (fun mu => ?_) (by simp) e5⟩
        rcases mu with mu | ⟨y, mu⟩ | mu
        · exact (old2 b o eb).1 mu
        · exact (old2 b o eb).2 y mu
        · cases mu
end Mine
end F16_part
section F17_part
open PySem PySem.Calls PyProof.Rows PySem.W
namespace Mine
variable {prog : Program} {w : World} {base : Heap} {mg : Str → Option Value}

theorem RVs.noln {ln : Option Addr} {X : List Addr} {h : Heap} {ts : List AV} (H : ∀ v t, t ∈ ts → RV ln X h v t → RV none X h v t) : ∀ {vs : List Value}, RVs ln X h vs ts → RVs none X h vs ts := by
  induction ts with
  | nil => intro vs r; cases r; exact .nil
  | cons t ts ih =>
    intro vs r
    cases vs with
    | nil => cases r
    | cons v vs => exact RVs.cons (H v t (.head _) r.head) (ih (fun v t m => H v t (.tail _ m)) r.tail)
theorem RV.int_noln {ln X h v i} (r : RV ln X h v (.int i)) : RV none X h v (.int i) := by
  obtain ⟨t, rfl⟩ := r.int_inv; exact .int .nil
theorem RV.rows_noln {ln X h v n k F} (r : RV ln X h v (.list (rowsT n k F))) : RV none X h v (.list (rowsT n k F)) := by
  obtain ⟨a, us, rfl, hx, l, r⟩ := r.list_inv
  refine .list hx l (RVs.noln (fun v t m r => ?_) r) .nil
  obtain ⟨i, _, rfl⟩ := List.mem_map.mp m
  obtain ⟨a, us, rfl, hx, l, r⟩ := RV.list_inv r
  refine .list hx l (RVs.noln (fun v t m r => ?_) r) .nil
  obtain ⟨j, _, rfl⟩ := List.mem_map.mp m
  exact r.int_noln

/-- all that the plain law says -/
structure MathOk : Prop where
  prime : ∀ n F p, 1 ≤ n → n ≤ 3 → (∀ i j, i < n → j < n → -24 ≤ F i j ∧ F i j ≤ 24) → p ∈ [2, 3, 5, 7] → PrimeOk n F p
  found : ∀ n F first, 1 ≤ n → n ≤ 3 → (∀ i j, i < n → j < n → -24 ≤ F i j ∧ F i j ≤ 24) → 1 ≤ first → first ≤ 6 → FoundOk n F first
  sums : ∀ n F, n ≤ 3 → (∀ i j, i < n → j < n → -24 ≤ F i j ∧ F i j ≤ 24) → (∀ r ∈ listM n F, rsum r < 2 ^ 60) ∧ ∀ i, bnd ((listM n F).take i) < 2 ^ 60
  next : ∀ m, m < 200 → ∃ q, m < q ∧ isP q = true ∧ q < 5000

structure Wrld (base : Heap) (mg : Str → Option Value) : Prop where
  H : Fns base mg
  G : Glb base mg
  W : ∃ C, OwnCls "NoInverse" C bmE "Exception.__new__" mg base
  M : MathOk

theorem found_any (Z : Wrld base mg) {n b first : Nat} {F : Mx} (hb : 3 ≤ b) (hb2 : b ≤ 8) (hn1 : 1 ≤ n) (hn : n ≤ 3) (hF : ∀ i j, i < n → j < n → -24 ≤ F i j ∧ F i j ≤ 24) (h1 : 1 ≤ first) (h6 : first ≤ 6) :
    ∃ a, mg "_law_found_right" = some (.ref a) ∧ Rdef base a ∧ ∀ (A : Around) (X : List Addr) (E : Value → Shared → Prop) (s : Shared) (vs : List Value) (outer : List Env), Rm A 22 → A.frames = some outer → s.heap.FunFrames base outer → St0 base none X s.heap →
      RVs none X s.heap vs [.list (rowsT n n F), .int first, .int b] → wpAny (model prog w) A (call (.ref a) vs) (fun v s' => (∃ h' tk, s' = { s with heap := h', toks := tk }) ∧ KpF outer s.heap s'.heap ∧ v = .bool true) E s := by
  obtain ⟨C, W⟩ := Z.W
  obtain ⟨fp, po, ppm, pcd, pdoc, hfp, pho, phd, phc⟩ := (Z.H.at 23).f
  have hfp : mg "_law_product" = some (.ref fp) := hfp
  have hx : ∀ i j, i < n → j < n → (F i j).natAbs < 2 ^ 30 := fun i j hi hj => by have := hF i j hi hj; omega
  obtain ⟨hr, hB⟩ := Z.M.sums n F hn hF
  have K0 := Z.M.found n F first hn1 hn hF h1 h6
  by_cases hd : detL n F = 0
  · exact found_raise Z.H Z.G W hfp hb hb2 hn1 (by omega) hx hr hB K0 hd
  · obtain ⟨a, hm, hrd, c⟩ := found_ok (prog := prog) (w := w) (ln := none) Z.H Z.G hfp hb hb2 hn1 (by omega) hx hr hB K0 hd
    refine ⟨a, hm, hrd, fun A X E s vs outer R _ _ S r => wpAny_mono (c A X E s vs R S r) (fun v s' h => ?_) fun _ _ x => x⟩
    obtain ⟨⟨h', tk, rfl, k⟩, t, rv, rfl⟩ := h
    exact ⟨⟨h', tk, rfl⟩, .of fun b o e => k.keep b o (by simp) e, rv.bool_inv⟩

section
variable {c : Cx} {σ : Sg}
/-- a test in the law's frame that may have caught an exception -/
noncomputable def TWX (c : Cx) (σ : Sg) (e : Expr) (P : Bool → Prop) : Prop :=
  ∀ (O X : List Addr) (E : Value → Shared → Prop) (s : Shared), Lo c.base c.env → Inv c.base c.env c.ln O X σ s.heap →
    wpAny (model c.prog c.w) c.A (isTrue e c.env (eval e c.env)) (fun b s' => (∃ h' tk, s' = { s with heap := h', toks := tk }) ∧ KpS c.env c.ln O s.heap s'.heap ∧ Inv c.base c.env c.ln O X σ s'.heap ∧ P b) E s

theorem KpF.dt {base env ln O X h h'} {σ : Sg} (I : Inv base env ln O X σ h) (hf : env.frame = some env.locals) (k : KpF [env] h h') : (∀ b o, b ≠ env.locals → h.get? b = some o → h'.get? b = some o) := fun b o n e => k.keep b o (by simp [hf]; exact fun q => n q) e
theorem Inv.kf {base env ln O X h h'} {σ : Sg} (I : Inv base env ln O X σ h) (L : Lo base env) (hf : env.frame = some env.locals) (k : KpF [env] h h') : Inv base env ln O X σ h' ∧ KpS env ln O h h' := by
  have kd := KpF.dt I hf k
  obtain ⟨mL, nL⟩ := I.ns
  obtain ⟨oL, eL, dL⟩ := Heap.Ns.obj nL
  have nL' : h'.Ns env.locals mL := k.up.ns nL
  have D : Dt h h' := fun b o d e => kd b o (fun q => by subst q; rw [eL] at e; cases e; rw [dL] at d; cases d) e
  have hc : ∀ cc w, h.IsCell cc w → h'.IsCell cc w := fun cc w n => by
    have ne : cc ≠ env.locals := fun q => not_ns_cell nL (q ▸ n)
    obtain ⟨o, e, d⟩ := n
    exact ⟨o, kd _ _ ne e, d⟩
  refine ⟨{ fk := I.fk, gl := I.gl, ns := ⟨mL, nL'⟩, rd := fun x t g => ?_, cs := fun y c m => let ⟨w, z⟩ := I.cs y c m; ⟨w, hc _ _ z⟩, ap := I.ap, ox := I.ox, ob := I.ob, xs := fun b m => let ⟨o, e, d⟩ := I.xs b m; ⟨o, D _ _ d e, d⟩, bs := fun b o e => kd b o (fun q => by rw [q, L.l] at e; cases e) (I.bs b o e), li := fun l e => let ⟨a, b, d⟩ := I.li l e; ⟨a, b.dt D, d⟩ }, ⟨fun b o n _ e => kd b o (fun q => n (.inl q)) e, fun b o e => ?_, fun l Y _ x => x.dt D⟩⟩
  · obtain ⟨v, r, lr⟩ := I.rd x t g
    refine ⟨v, ?_, lr.dt D⟩
    rcases r with ⟨a, m, n, e⟩ | ⟨a, cc, l, n⟩
    · exact .inl ⟨a, m, k.up.ns n, e⟩
    · exact .inr ⟨a, cc, l, hc _ _ n⟩
  · by_cases q : b = env.locals
    · subst q; obtain ⟨o', e', _⟩ := Heap.Ns.obj nL'; exact ⟨o', e'⟩
    · exact ⟨o, kd b o q e⟩

theorem TWX_found (Z : Wrld c.base mg) (R : Rm c.A 22) (hfr : c.A.frames = some [c.env]) (hf : c.env.frame = some c.env.locals) (hkd : c.env.scope.kind ≠ .module) {n b first : Nat} {F : Mx} {px pos : Pos} {e : Expr} {args : List Expr} {P : Bool → Prop}
    (hb : 3 ≤ b) (hb2 : b ≤ 8) (hn1 : 1 ≤ n) (hn : n ≤ 3) (hF : ∀ i j, i < n → j < n → -24 ≤ F i j ∧ F i j ≤ 24) (h1 : 1 ≤ first) (h6 : first ≤ 6)
    (h : EsW c σ (e :: args) fun ts => ts = [.list (rowsT n n F), .int first, .int b]) (p : P true)
    (hk : c.env.kindOf ("_law_found_right" : Str) = some .globalImplicit := by rfl)
    (he : ∀ env, starEach (e :: args) env = (false, eval e env) :: starEach args env := by intro _; rfl)
    (hc : ∀ env, eval (.Call (.Name "_law_found_right" px) (e :: args) [] pos) env = (do callWith pos (← eval (.Name "_law_found_right" px) env) [] (backTo pos (starEach (e :: args) env)) (backToKw pos (keywordEach [] env))) := by intro _; rfl)
    (hp : ∀ env whole, isTrue (.Call (.Name "_law_found_right" px) (e :: args) [] pos) env whole = (do let v ← whole; standAt (Expr.Call (.Name "_law_found_right" px) (e :: args) [] pos).pos; holding [v] (truthy v)) := by intro _ _; rfl) :
    TWX c σ (.Call (.Name "_law_found_right" px) (e :: args) [] pos) P := fun O X E s L I => by
  obtain ⟨a, hm, hrd, cc⟩ := found_any (prog := c.prog) (w := c.w) Z hb hb2 hn1 hn hF h1 h6
  refine isTrue_plain (eval_call_raw Z.G hm hrd I (wpAny_mono (EsW_run h I) (fun vs s1 h1 => ?_) fun _ _ x => x) hk (by decide) he hc) (hp _ _)
  obtain ⟨k1, ts, r, rfl⟩ := h1
  have I1 := I.kp k1.kp
  refine ⟨I1.bs, ?_⟩
  have ff : s1.heap.FunFrames c.base [c.env] := by
    obtain ⟨mL, oL, es, ep, e1, e2, _⟩ := I1.ns
    exact ⟨hkd, ⟨c.env.locals, oL, hf, L.l, e1, fun vs q => by rw [e2] at q; cases q⟩, trivial⟩
  have r' : RVs none X s1.heap vs [.list (rowsT n n F), .int first, .int b] := RVs.noln (fun v t m r => by
    simp only [List.mem_cons, List.not_mem_nil, or_false] at m
    rcases m with rfl | rfl | rfl
    · exact r.rows_noln
    · exact r.int_noln
    · exact r.int_noln) r
  refine wpAny_mono (cc c.A X E s1 vs [c.env] R hfr ff ⟨I1.xs, I1.bs, fun _ e => nomatch e⟩ r') (fun v s2 h2 => ?_) fun _ _ x => x
  obtain ⟨⟨h', tk, rfl⟩, kf, rfl⟩ := h2
  obtain ⟨I2, k2⟩ := I1.kf L hf kf
  obtain ⟨hs1, ts1, rfl, kk⟩ := k1
  exact wpAny_truthy_bool ⟨⟨h', tk, rfl⟩, (KpS.of I kk).trans k2 fun _ m => .inl m, I2, p⟩
theorem TWX_not {e pos} {P : Bool → Prop} (h : TWX c σ e fun b => P (!b)) : TWX c σ (.UnaryOp .Not e pos) P := fun O X E s L I =>
  PyProof.Rows.isTrue_not (wpAny_mono (h O X E s L I) (fun b s1 h1 => h1) fun _ _ x => x)
theorem TWX_or2 {x y pos} {P : Bool → Prop} (h : TWX c σ x fun b => b = false) (h2 : TWX c σ y fun b => b = false) (p : P false) : TWX c σ (.BoolOp .Or [x, y] pos) P := fun O X E s L I => by
  refine isTrue_or (wpAny_mono (h O X E s L I) (fun b s1 h1 => ?_) fun _ _ x => x)
  obtain ⟨⟨hs, ts, rfl⟩, k1, I1, rfl⟩ := h1
  show wpAny _ _ _ _ _ _
  refine isTrue_or (wpAny_mono (h2 O X E _ L I1) (fun b s2 h3 => ?_) fun _ _ x => x)
  obtain ⟨⟨hs2, ts2, rfl⟩, k2, I2, rfl⟩ := h3
  exact isTrue_or_nil ⟨⟨hs2, ts2, rfl⟩, k1.trans k2 fun _ m => .inl m, I2, p⟩
theorem SW_ifX {t b pos} {Q : Out → Prop} (h : TWX c σ t fun x => x = false) (q : Q (.next σ)) : SW c σ (.If t b [] pos) Q := fun O X E s L I => by
  refine wpAny_If (wpAny_mono (h O X E s L I) (fun x s1 h1 => ?_) fun _ _ x => x)
  obtain ⟨⟨hs, ts, rfl⟩, k, I1, rfl⟩ := h1
  exact wpAny_execs_nil ⟨⟨hs, ts, rfl⟩, k, O, X, σ, I1, .refl, q⟩
end
end Mine
end F17_part
section F18_part
open PySem PySem.Calls PyProof.Rows PySem.W
namespace Mine
variable {prog : Program} {w : World} {base : Heap} {mg : Str → Option Value}

noncomputable def f24 : Mx := fun i j => if i = 0 then (if j = 0 then 2 else 1) else (if j = 0 then 4 else 2)
theorem isP_le {p : Nat} (h : isP p = true) : 2 ≤ p := (isP_iff.mp h).1
theorem goodP_one (r : Nat) : goodP 1 r = isP r := by
  unfold goodP
  cases h : isP r with
  | false => rfl
  | true =>
    have := isP_le h
    have e : (1 : Int) % (r : Int) = 1 := Int.emod_eq_of_lt (by omega) (by omega)
    rw [e]; rfl

theorem law_rest (Z : Wrld base mg) {l L fa : Addr} {cd : Value} {A : Around} (R : Rm A 30) (hfr : A.frames = some [envOfC (nmOf (stOf 30)) (scOf (stOf 30)) L fa cd]) (Lo : Mine.Lo base (envOfC (nmOf (stOf 30)) (scOf (stOf 30)) L fa cd)) :
    SWs ⟨prog, w, base, A, envOfC (nmOf (stOf 30)) (scOf (stOf 30)) L fa cd, some l⟩ [vV "line" .line] ((boOf (stOf 30)).drop 1) fun o => match o with | .ret t => t = .bool true | .next _ => False := by
  have H := Z.H
  have G := Z.G
  refine SWs_cons (SW_asg (.inl ⟨rfl, rfl⟩) (EW_bin (EW_int (EW_fn G (H.at 20) (k := 1) R (EsW_cons (EW_name rfl (EsW_cons (EW_int (EsW_nil ⟨_, law_cell_ok (m := 6) (H.at 20) G (by decide), ?_⟩)))))))))
  rintro t ⟨r, rfl, hr⟩
  refine Op_add ?_
  obtain ⟨b, hb⟩ : ∃ b, b = 3 + r := ⟨_, rfl⟩
  have eb : (3 : Int) + (r : Int) = (b : Int) := by omega
  rw [eb]
  have hb3 : 3 ≤ b := by omega
  have hb8 : b ≤ 8 := by omega
  have hkd : (envOfC (nmOf (stOf 30)) (scOf (stOf 30)) L fa cd).scope.kind ≠ .module := by show (scOf (stOf 30)).kind ≠ .module; decide
  refine SWs_cons (SW_ifX (TWX_or2 (TWX_not (TWX_found Z (R.le (by decide)) hfr rfl hkd (n := 1) (first := 1) (b := b) (F := fun _ _ => 6) hb3 hb8 (by decide) (by decide) (fun i j _ _ => by decide) (by decide) (by decide) ?_ rfl))
    (TWX_not (TWX_found Z (R.le (by decide)) hfr rfl hkd (n := 2) (first := 2) (b := b) (F := f24) hb3 hb8 (by decide) (by decide) (fun i j _ _ => by unfold f24; split <;> split <;> decide) (by decide) (by decide) ?_ rfl)) rfl) ?_)
  · exact EsW_cons <| EW_list <| EsW_cons <| EW_list <| EsW_cons <| EW_int <| EsW_nil ⟨Nat.le_of_ble_eq_true rfl, EsW_nil ⟨Nat.le_of_ble_eq_true rfl, EsW_cons <| EW_int <| EsW_cons <| EW_name rfl <| EsW_nil rfl⟩⟩
  · exact EsW_cons <| EW_list <| EsW_cons <| EW_list <| EsW_cons <| EW_int <| EsW_cons <| EW_int <| EsW_nil ⟨Nat.le_of_ble_eq_true rfl, EsW_cons <| EW_list <| EsW_cons <| EW_int <| EsW_cons <| EW_int <| EsW_nil ⟨Nat.le_of_ble_eq_true rfl, EsW_nil ⟨Nat.le_of_ble_eq_true rfl, EsW_cons <| EW_int <| EsW_cons <| EW_name rfl <| EsW_nil rfl⟩⟩⟩
  refine SWs_cons (SW_for (It_up R.hd (EW_rng1 G (EW_int ⟨2, rfl, _, _, rfl, by omega, by omega, fun i σ => σ = [vV "line" .line, vI "w" b], [vV "line" .line, vI "w" b], Sg.le_cons rfl (Sg.le_cons rfl Sg.le_nil), rfl, ?_, ?_⟩))))
  · rintro i t σ et rfl
    obtain ⟨hi, rfl⟩ := upL_get et
    refine TgW_name (.inl ⟨rfl, rfl⟩) ?_ (by simp)
    refine SWs_cons (SW_tupSw (names := ["rows", "first"]) R.hd (slts rfl) (EW_tuple (EsW_cons (EW_fn G (H.at 26) (k := 2) R (EsW_cons (EW_name rfl (EsW_nil ⟨_, law_matrix_ok H G, ?_⟩)))))))
    rintro t ⟨n, F, hn1, hn3, rfl, hF⟩
    refine EsW_cons (EW_bin (EW_int (EW_fn G (H.at 20) (k := 1) R (EsW_cons (EW_name rfl (EsW_cons (EW_int (EsW_nil ⟨_, law_cell_ok (m := 6) (H.at 20) G (by decide), ?_⟩))))))))
    rintro t ⟨x, rfl, hx⟩
    refine Op_add (EsW_nil ⟨Nat.le_of_ble_eq_true rfl, _, rfl, rfl, ?_⟩)
    obtain ⟨first, hfirst⟩ : ∃ first, first = 1 + x := ⟨_, rfl⟩
    have ef : (1 : Int) + (x : Int) = (first : Int) := by omega
    rw [ef]
    have hx30 : ∀ i j, i < n → j < n → (F i j).natAbs < 2 ^ 30 := fun i j hi hj => by have := hF i j hi hj; omega
    refine SWs_cons <| SW_for <| It_tup R.hd <| EW_tuple <| EsW_cons <| EW_int <| EsW_cons <| EW_int <| EsW_cons <| EW_int <| EsW_cons <| EW_int <| EsW_nil ⟨Nat.le_of_ble_eq_true rfl, _, rfl, fun i σ => σ = [vV "line" .line, vI "w" b, vV "rows" (.list (rowsT n n F)), vI "first" first], [vV "line" .line, vI "w" b, vV "rows" (.list (rowsT n n F)), vI "first" first],
      Sg.le_cons rfl (Sg.le_cons rfl (Sg.le_cons rfl (Sg.le_cons rfl Sg.le_nil))), rfl, ?_, ?_⟩
    · rintro i t σ et rfl
      have hp : ∃ p : Nat, t = .int p ∧ p ∈ [2, 3, 5, 7] := by
        have hi4 := (List.getElem?_eq_some_iff.mp et).1
        match i, hi4, et with
        | 0, _, et => exact ⟨2, (Option.some.inj et).symm, by decide⟩
        | 1, _, et => exact ⟨3, (Option.some.inj et).symm, by decide⟩
        | 2, _, et => exact ⟨5, (Option.some.inj et).symm, by decide⟩
        | 3, _, et => exact ⟨7, (Option.some.inj et).symm, by decide⟩
      obtain ⟨p, rfl, hp⟩ := hp
      have hp2 : 2 ≤ p ∧ p < 2 ^ 20 := by
        simp only [List.mem_cons, List.not_mem_nil, or_false] at hp
        omega
      refine TgW_name (.inl ⟨rfl, rfl⟩) ?_ (by simp)
      refine SWs_cons (SW_if (TW_not (TW_plain (EW_fn G (H.at 27) (k := 21) R (EsW_cons (EW_name rfl (EsW_cons (EW_name rfl (EsW_nil ⟨_, law_rests_right_ok H G hp2.1 hp2.2 hn1 (by omega) hx30 (Z.M.prime n F p hn1 hn3 hF hp), ?_⟩)))))))))
      rintro t rfl
      refine Tr_bool ?_
      rw [if_neg (by decide)]
      exact SWs_nil (SWs_nil ⟨_, Sg.le_trans' (Sg.le_cons rfl (Sg.le_cons rfl (Sg.le_cons rfl (Sg.le_cons rfl Sg.le_nil)))) rfl, rfl⟩)
    · rintro σ rfl
      refine SWs_cons (SW_ifX (TWX_not (TWX_found Z (R.le (by decide)) hfr rfl hkd (n := n) (first := first) (b := b) (F := F) hb3 hb8 hn1 hn3 hF (by omega) (by omega)
        (EsW_cons (EW_name rfl (EsW_cons (EW_name rfl (EsW_cons (EW_name rfl (EsW_nil rfl))))))) rfl)) ?_)
      exact SWs_nil ⟨_, Sg.le_trans' (Sg.le_cons rfl (Sg.le_cons rfl Sg.le_nil)) rfl, rfl⟩
  · rintro σ rfl
    refine SWs_cons (SW_asg (.inr ⟨rfl, rfl⟩) (EW_fn G (H.at 20) (k := 1) R (EsW_cons (EW_name rfl (EsW_cons (EW_int (EsW_nil ⟨_, law_cell_ok (m := 200) (H.at 20) G (by decide), ?_⟩)))))))
    rintro t ⟨N, rfl, hN⟩
    obtain ⟨q, hq1, hq2, hq3⟩ := Z.M.next N hN
    refine SWs_cons (SW_if (TW_cmp (EW_fn G (H.at 12) (k := 1) R (EsW_cons (EW_name rfl (EsW_nil ⟨_, is_plain_prime_ok (H.at 12) G (by omega), ?_⟩))))))
    rintro t rfl
    have hand : EW ⟨prog, w, base, A, envOfC (nmOf (stOf 30)) (scOf (stOf 30)) L fa cd, some l⟩ [vI "number" N, vV "line" .line, vI "w" b] (match (boOf (stOf 30))[5]? with | some (Stmt.If (Expr.Compare _ _ [r] _) _ _ _) => r | _ => .Name "" default) fun t => t = .bool (isP N) := by
      refine EW_and (EW_cmp (EW_name rfl (EW_int (Op_gt ⟨_, rfl, ?_⟩))))
      by_cases h2 : 1 < N
      · rw [if_pos (by simp; omega)]
        refine EW_one (EW_cmp (EW_comp Lo (CompOk.of rfl (by rfl)) (It_up R.hd (EW_rng2 G (EW_int (EW_name rfl ⟨_, _, rfl, rfl, 2, N, rfl, by omega, by omega, by rw [upL_len]; omega, CompT_filter (List.range' 2 (N - 2)) (fun (i : Nat) => AV.int (i : Int)) (fun (i : Nat) => AV.int (i : Int)) (fun d => N % d == 0) ?_ ?_⟩))))))
        · intro C d Lo2 hdm
          have hd2 : 2 ≤ d := by obtain ⟨i, _, rfl⟩ := List.mem_range'.mp hdm; omega
          refine TgC_name (.inl ⟨rfl, rfl⟩) (.head _) ?_ (by simp)
          refine TW_cmp (EW_bin (EW_name rfl (EW_name rfl (Op_mod ⟨by omega, EW_int (Op_eq ⟨_, rfl, ?_, fun _ => EW_name rfl rfl⟩)⟩))))
          rw [fmod_nat, Bool.eq_iff_iff]
          simp only [beq_iff_eq]; omega
        · refine EW_list (EsW_nil ⟨Nat.zero_le _, ?_⟩)
          have e1 : ∀ l : List Nat, AV.list (l.map fun (i : Nat) => AV.int (i : Int)) = .list ((l.map fun (i : Nat) => (i : Int)).map AV.int) := fun l => by rw [List.map_map]; rfl
          rw [e1]
          refine Op_eqL (ms := []) R ?_
          congr 1
          rw [Bool.eq_iff_iff]
          simp only [decide_eq_true_eq, List.map_eq_nil_iff, List.filter_eq_nil_iff, isP_iff, List.mem_range', beq_iff_eq]
          constructor
          · intro h
            exact ⟨h2, fun d h3 h4 => h d ⟨d - 2, by omega, by omega⟩⟩
          · rintro ⟨_, h⟩ d ⟨i, hi, rfl⟩
            exact h _ (by omega) (by omega)
      · rw [if_neg (by simp; omega)]
        have : isP N = false := by unfold isP; rw [decide_eq_false (by omega)]; rfl
        rw [this]
    refine EW.mono hand ?_
    rintro t rfl
    refine Op_neB ⟨_, rfl, ?_⟩
    rw [if_neg (by simp)]
    refine SWs_nil (SWs_cons (SW_ret (EW_cmp (EW_fn G (H.at 13) (k := 2) R (EsW_cons (EW_name rfl (EsW_nil ⟨_, next_plain_prime_ok (H.at 12) (H.at 13) G hq1 hq2 (by omega), ?_⟩)))))))
    rintro t ⟨r1, rfl, hr1⟩
    have hg : goodP 1 q = true := by rw [goodP_one]; exact hq2
    refine EW_fn G (H.at 28) (k := 1) R (EsW_cons (EW_name rfl (EsW_cons (EW_int (EsW_nil ⟨_, law_prime_behind_ok (H.at 28) G hq1 hg hq3, ?_⟩)))))
    rintro t ⟨r2, rfl, hr2⟩
    have hr2' : Least isP N r2 := ⟨hr2.1, by rw [← goodP_one]; exact hr2.2.1, fun e h1 h2 => by rw [← goodP_one]; exact hr2.2.2 e h1 h2⟩
    have er := hr1.uniq hr2'
    subst er
    exact Op_eq (by simp)
end Mine
end F18_part
section F19_part
open PySem PySem.Calls PyProof.Rows PySem.W
namespace Mine
variable {prog : Program} {w : World} {base : Heap} {mg : Str → Option Value}

theorem law_main (Z : Wrld base mg) {L fa : Addr} {cd : Value} {A : Around} {s : Shared} {ns : List Int} {E : Value → Shared → Prop} (R : Rm A 30) (hfr : A.frames = some [envOfC (nmOf (stOf 30)) (scOf (stOf 30)) L fa cd]) (Lo : Mine.Lo base (envOfC (nmOf (stOf 30)) (scOf (stOf 30)) L fa cd))
    (I : Inv base (envOfC (nmOf (stOf 30)) (scOf (stOf 30)) L fa cd) none [] [] [vV "script" (.list (ns.map AV.int))] s.heap) (hlen : ns.length ≤ 63) :
    wpAny (model prog w) A (execs (boOf (stOf 30)) (envOfC (nmOf (stOf 30)) (scOf (stOf 30)) L fa cd)) (fun f s' => f = .ret (.bool true) ∧ (∃ h' tk, s' = { s with heap := h', toks := tk }) ∧ ∀ b o, base.get? b = some o → s'.heap.get? b = some o) E s := by
  have G := Z.G
  have ew : EWF ⟨prog, w, base, A, envOfC (nmOf (stOf 30)) (scOf (stOf 30)) L fa cd, none⟩ [vV "script" (.list (ns.map AV.int))] (match (boOf (stOf 30))[0]? with | some (Stmt.Assign _ e _) => e | _ => .Name "" default) (fun ts => ∃ is : List Int, ts = [.list (is.map AV.int), .int 0] ∧ is.length ≤ 40) := by
    refine EWF_list (EsW_cons (EW_comp Lo (CompOk.of rfl (by rfl)) (It_list R.hd (EW_upto (EW_name rfl ⟨_, rfl, by simp; omega, EW_int ⟨40, rfl, ?_⟩⟩)))))
    rw [← List.map_take]
    refine ⟨_, rfl, by simp; omega, CompT_map (ns.take 40) AV.int (fun x => AV.int (if x < 0 then -x else x)) ?_ ?_⟩
    · intro C x Lo2 hxm
      refine TgC_name (.inl ⟨rfl, rfl⟩) (.head _) ?_ (by simp)
      exact EW_bi G (by decide) (f := .builtin "abs") (by decide +kernel) (.inl ⟨_, rfl⟩) (EsW_cons (EW_name rfl (EsW_nil (BiW_abs rfl))))
    · refine EsW_cons (EW_int (EsW_nil ⟨Nat.le_of_ble_eq_true rfl, (ns.take 40).map fun x => if x < 0 then -x else x, ?_, by simp; omega⟩))
      rw [List.map_map]; rfl
  have body : boOf (stOf 30) = (boOf (stOf 30)).headD (.Pass default) :: (boOf (stOf 30)).drop 1 := rfl
  refine wpAny_execs_cons (wpAny_Assign_Name (wpAny_mono (ew [] [] _ s I) (fun v s1 h1 => ?_) fun _ _ x => x) rfl)
  obtain ⟨⟨h1, t1, rfl, k1⟩, a, us, ts, rfl, hf, hx, pl, r, is, rfl, his⟩ := h1
  have I1 : Inv base (envOfC (nmOf (stOf 30)) (scOf (stOf 30)) L fa cd) none [a] [a] [vV "script" (.list (ns.map AV.int))] h1 := I.own k1 hf ⟨_, pl.choose_spec, rfl⟩
  refine store1 (s := ⟨h1, s.gens, s.drawn, t1, s.os⟩) Lo I1 (x := "line") (t := .own true [.list (is.map AV.int), .int 0]) ⟨a, us, rfl, .head _, by simp, pl.isList, fun _ => pl, r⟩ (.inl ⟨rfl, rfl⟩) fun h2 t2 I2 sb => ?_
  have hba : base.get? a = none := I2.ob a (.head _)
  have I3 : Inv base (envOfC (nmOf (stOf 30)) (scOf (stOf 30)) L fa cd) (some a) [] [a] [vV "line" .line] h2 := by
    obtain ⟨v, rd, a', us', rfl, ha', _, l2, _, r2⟩ := I2.rd "line" _ rfl
    have ea : a' = a := by simpa using ha'
    subst ea
    refine { fk := I2.fk, gl := I2.gl, ns := I2.ns, rd := fun x t g => ?_, cs := I2.cs, ap := I2.ap, ox := fun _ m => (nomatch m), ob := fun _ m => (nomatch m), xs := I2.xs, bs := I2.bs, li := fun q e => ?_ }
    · unfold Sg.get at g
      split at g
      · rename_i q; subst q; cases g
        exact ⟨_, rd, .line rfl .nil⟩
      · cases g
    · cases e
      refine ⟨.head _, ?_, hba⟩
      obtain ⟨u0, us0, rfl⟩ : ∃ u0 us0, us' = u0 :: us0 := by cases us' with | nil => cases r2 | cons x y => exact ⟨_, _, rfl⟩
      have r0 := RVs.head r2
      have r1 := RVs.tail r2
      obtain ⟨xa, us3, rfl, nx, l3, r3⟩ := RV.list_inv r0
      cases r1 with
      | int r1 =>
        cases r1
        exact ⟨xa, 0, _, us3, is, l2, nx, l3, RVs.ints r3, his, by omega⟩
  refine wpAny_mono (law_rest (prog := prog) (w := w) (l := a) Z R hfr Lo [] [a] _ ⟨h2, s.gens, s.drawn, t2, s.os⟩ Lo I3) (fun fl s' p => ?_) fun _ _ x => x
  obtain ⟨⟨h3, t3, rfl⟩, kk, p⟩ := p
  cases fl with
  | next => obtain ⟨_, _, _, _, _, q⟩ := p; exact q.elim
  | brk => exact p.elim
  | cont => exact p.elim
  | ret v =>
    obtain ⟨t, Xr, rv, _, rfl⟩ := p
    refine ⟨by rw [rv.bool_inv], ⟨h3, t3, rfl⟩, fun b o e => kk.keep b o (fun mu => ?_) (fun q => by cases q; rw [hba] at e; cases e) (I3.bs b o e)⟩
    rcases mu with mu | ⟨y, mu⟩ | mu
    · rw [mu, Lo.l] at e; cases e
    · rw [Lo.c y b mu] at e; cases e
    · cases mu
end Mine
end F19_part
section M1_part
open PySem PySem.Calls PyProof.Rows PySem.W
namespace Mine

/-- a ring of rests -/
structure Hom (p : Nat) {α : Type} [Lean.Grind.CommRing α] (φ : Int → α) : Prop where
  add : ∀ x y, φ (x + y) = φ x + φ y
  mul : ∀ x y, φ (x * y) = φ x * φ y
  one : φ 1 = 1
  eq : ∀ x y, φ x = φ y ↔ x % p = y % p

noncomputable def phi (p : Nat) [NeZero p] (x : Int) : Fin p := Fin.ofNat p (x % p).toNat
theorem phi_val (p : Nat) [NeZero p] (x : Int) : ((phi p x).val : Int) = x % p := by
  have hp : 0 < p := Nat.pos_of_ne_zero (NeZero.ne p)
  have h1 := Int.emod_nonneg x (show (p : Int) ≠ 0 by omega)
  have h2 := Int.emod_lt_of_pos x (show (0 : Int) < p by omega)
  unfold phi
  rw [Fin.val_ofNat, Nat.mod_eq_of_lt (by omega)]
  omega
theorem phi_hom (p : Nat) [NeZero p] : Hom p (phi p) where
  add x y := by
    apply Fin.ext
    have : (((phi p (x + y)).val : Nat) : Int) = ((phi p x + phi p y).val : Nat) := by
      rw [Fin.val_add, Int.natCast_emod, Int.natCast_add, phi_val, phi_val, phi_val, ← Int.add_emod]
    omega
  mul x y := by
    apply Fin.ext
    have : (((phi p (x * y)).val : Nat) : Int) = ((phi p x * phi p y).val : Nat) := by
      rw [Fin.val_mul, Int.natCast_emod, Int.natCast_mul, phi_val, phi_val, phi_val, ← Int.mul_emod]
    omega
  one := by
    apply Fin.ext
    show (phi p 1).val = 1 % p
    have e := phi_val p 1
    have : (((1 % p : Nat)) : Int) = 1 % (p : Int) := by rw [Int.natCast_emod]; rfl
    omega
  eq x y := by
    constructor
    · intro h
      have := congrArg (fun z : Fin p => ((z.val : Nat) : Int)) h
      simpa only [phi_val] using this
    · intro h
      apply Fin.ext
      have h1 := phi_val p x
      have h2 := phi_val p y
      omega

section
variable {p : Nat} {α : Type} [Lean.Grind.CommRing α] {φ : Int → α} (h : Hom p φ)
include h
theorem Hom.zero : φ 0 = 0 := by
  have := h.add 0 0
  rw [Int.add_zero] at this
  grind
theorem Hom.neg (x : Int) : φ (-x) = -φ x := by
  have := h.add x (-x)
  rw [Int.add_right_neg, h.zero] at this
  grind
theorem Hom.sub (x y : Int) : φ (x - y) = φ x - φ y := by
  rw [Int.sub_eq_add_neg, h.add, h.neg]; grind
theorem Hom.mod (x : Int) : φ (x % p) = φ x := (h.eq _ _).mpr (Int.emod_emod x p)
theorem Hom.ne (hp : 2 ≤ p) : (1 : α) ≠ 0 := fun q => by
  rw [← h.one, ← h.zero, h.eq] at q
  rw [Int.emod_eq_of_lt (by omega) (by omega)] at q
  simp at q
theorem Hom.zero_iff {x : Int} : φ x = 0 ↔ x % p = 0 := by
  rw [← h.zero, h.eq]; simp
theorem Hom.zero_of_lt {x : Int} (h0 : 0 ≤ x) (h1 : x < p) : φ x = 0 ↔ x = 0 := by
  rw [h.zero_iff, Int.emod_eq_of_lt h0 h1]
end

/-- the primes that are met -/
noncomputable def PL : List Nat := [2, 3, 5, 7, 11, 13, 17, 19, 23]
theorem pw : ∀ p ∈ PL, ∀ x, x < p → x ≠ 0 → x * Builtin.powMod x (p - 2) p % p = 1 := by decide +kernel
theorem PL_ge {p : Nat} (hp : p ∈ PL) : 2 ≤ p := by
  have : ∀ p ∈ PL, 2 ≤ p := by decide
  exact this p hp
theorem bk_inv {p : Nat} {α : Type} [Lean.Grind.CommRing α] {φ : Int → α} (h : Hom p φ) (hp : p ∈ PL) {a : Int} (ha : φ a ≠ 0) : φ a * φ (bk p a) = 1 := by
  have h2 := PL_ge hp
  rw [Ne, h.zero_iff] at ha
  have h0 := Int.emod_nonneg a (show (p : Int) ≠ 0 by omega)
  have h1 := Int.emod_lt_of_pos a (show (0 : Int) < p by omega)
  have e := pw p hp (a % p).toNat (by omega) (by omega)
  rw [← h.mod a, ← h.mul, ← h.one, h.eq]
  unfold bk
  have e2 : (a % (p : Int)) = (((a % (p : Int)).toNat : Nat) : Int) := by omega
  conv => lhs; rw [e2]
  rw [← Int.natCast_mul, ← Int.natCast_emod, Int.toNat_natCast, e]
  rw [Int.emod_eq_of_lt (by omega) (by omega)]; rfl
end Mine
end M1_part
section M2_part
open PySem PySem.Calls PyProof.Rows PySem.W
namespace Mine

theorem spots_nil {n : Nat} {F : Mx} {a : Nat} (h : spots n F a = []) {r : Nat} (h1 : a ≤ r) (h2 : r < n) : F r a = 0 := by
  unfold spots at h
  rw [List.filter_eq_nil_iff] at h
  have := h r (List.mem_range'.mpr ⟨r - a, by omega, by omega⟩)
  simpa using this

section
variable {p : Nat} {α : Type} [Lean.Grind.CommRing α] {φ : Int → α} (h : Hom p φ) (hp : p ∈ PL)
include h hp

theorem nz {n k : Nat} {F : Mx} (hF : Bd p n k F) {r c : Nat} (hr : r < n) (hc : c < k) (e : F r c ≠ 0) : φ (F r c) ≠ 0 := fun q => by
  have := hF r c hr hc
  exact e ((h.zero_of_lt this.1 this.2).mp q)

theorem detA2 {a : Nat} {F : Mx} {f : Int} (hF : Bd p (a + 1) (a + 1) F) : φ (detGo p (a + 1) 1 a F f) = φ f * φ (F a a) := by
  unfold detGo stepD
  cases hs : spots (a + 1) F a with
  | nil =>
    have e := spots_nil hs (Nat.le_refl a) (by omega)
    simp only
    rw [e, h.zero]; grind
  | cons s S =>
    obtain ⟨h1, h2, h3⟩ := spots_mem (n := a + 1) (F := F) (a := a) (s := s) (by rw [hs]; exact .head _)
    have : s = a := by omega
    subst this
    simp only [if_true, detGo, h.mod, h.mul]

theorem detA1 {a : Nat} {F : Mx} {f : Int} (hF : Bd p (a + 2) (a + 2) F) : φ (detGo p (a + 2) 2 a F f) = φ f * (φ (F a a) * φ (F (a + 1) (a + 1)) - φ (F a (a + 1)) * φ (F (a + 1) a)) := by
  have hp0 : 0 < p := by have := PL_ge hp; omega
  rw [detGo]
  unfold stepD
  cases hs : spots (a + 2) F a with
  | nil =>
    have e := spots_nil hs (Nat.le_refl a) (by omega)
    have e2 := spots_nil hs (Nat.le_succ a) (by omega)
    simp only
    rw [e, e2, h.zero]; grind
  | cons s S =>
    obtain ⟨h1, h2, h3⟩ := spots_mem (n := a + 2) (F := F) (a := a) (s := s) (by rw [hs]; exact .head _)
    have hn := nz h hp hF h2 (by omega) h3
    rcases (show s = a ∨ s = a + 1 by omega) with rfl | rfl
    · simp only [if_true]
      rw [detA2 (a := s + 1) h hp (elim_bd hp0 hF), h.mod, h.mul]
      have hb := bk_inv h hp hn
      unfold elimF
      rw [if_neg (by omega), h.mod, h.sub, h.mul, h.mod, h.mul]
      grind
    · have e1 : ¬ (a + 1 = a) := by omega
      simp only [e1, if_false]
      have hF1 : Bd p (a + 2) (a + 2) (swapF F a (a + 1)) := swap_bd hF (by omega) (by omega)
      rw [detA2 (a := a + 1) h hp (elim_bd hp0 hF1), h.mod, h.mul, h.mod, h.neg]
      have s1 : swapF F a (a + 1) a = F (a + 1) := by unfold swapF putF; simp
      have s2 : swapF F a (a + 1) (a + 1) = F a := by unfold swapF putF; simp
      have hb := bk_inv h hp hn
      unfold elimF
      rw [if_neg (by omega), s1, s2, h.mod, h.sub, h.mul, h.mod, h.mul]
      grind

theorem detA0 {a : Nat} {F : Mx} {f : Int} (hF : Bd p (a + 3) (a + 3) F) : φ (detGo p (a + 3) 3 a F f) = φ f * (φ (F a a) * (φ (F (a + 1) (a + 1)) * φ (F (a + 2) (a + 2)) - φ (F (a + 1) (a + 2)) * φ (F (a + 2) (a + 1)))
    - φ (F a (a + 1)) * (φ (F (a + 1) a) * φ (F (a + 2) (a + 2)) - φ (F (a + 1) (a + 2)) * φ (F (a + 2) a)) + φ (F a (a + 2)) * (φ (F (a + 1) a) * φ (F (a + 2) (a + 1)) - φ (F (a + 1) (a + 1)) * φ (F (a + 2) a))) := by
  have hp0 : 0 < p := by have := PL_ge hp; omega
  rw [detGo]
  unfold stepD
  cases hs : spots (a + 3) F a with
  | nil =>
    have e := spots_nil hs (Nat.le_refl a) (by omega)
    have e2 := spots_nil hs (Nat.le_succ a) (by omega)
    have e3 := spots_nil hs (show a ≤ a + 2 by omega) (by omega)
    simp only
    rw [e, e2, e3, h.zero]; grind
  | cons s S =>
    obtain ⟨h1, h2, h3⟩ := spots_mem (n := a + 3) (F := F) (a := a) (s := s) (by rw [hs]; exact .head _)
    have hn := nz h hp hF h2 (by omega) h3
    have hb := bk_inv h hp hn
    have low : ∀ (b : Int) (G : Mx) (r c : Nat), a < r → φ (elimF p b a G r c) = φ (G r c) - φ (G r a) * φ b * φ (G a c) := fun b G r c hr => by
      unfold elimF
      rw [if_neg (by omega), h.mod, h.sub, h.mul, h.mod, h.mul]
    rcases (show s = a ∨ s = a + 1 ∨ s = a + 2 by omega) with rfl | rfl | rfl
    · simp only [if_true]
      rw [detA1 (a := s + 1) h hp (elim_bd hp0 hF), h.mod, h.mul]
      rw [low _ _ _ _ (by omega), low _ _ _ _ (by omega), low _ _ _ _ (by omega), low _ _ _ _ (by omega)]
      show _ * (_ * (φ (F (s + 2) (s + 2)) - φ (F (s + 2) s) * _ * φ (F s (s + 2))) - (φ (F (s + 1) (s + 2)) - _ * _ * φ (F s (s + 2))) * (φ (F (s + 2) (s + 1)) - φ (F (s + 2) s) * _ * _)) = _
      generalize φ (F s s) = x00 at *
      generalize φ (bk p (F s s)) = b at *
      grind
    · have e1 : ¬ (a + 1 = a) := by omega
      simp only [e1, if_false]
      have hF1 : Bd p (a + 3) (a + 3) (swapF F a (a + 1)) := swap_bd hF (by omega) (by omega)
      rw [detA1 (a := a + 1) h hp (elim_bd hp0 hF1), h.mod, h.mul, h.mod, h.neg]
      have s1 : swapF F a (a + 1) a = F (a + 1) := by unfold swapF putF; simp
      have s2 : swapF F a (a + 1) (a + 1) = F a := by unfold swapF putF; simp
      have s3 : swapF F a (a + 1) (a + 2) = F (a + 2) := by unfold swapF putF; simp
      rw [low _ _ _ _ (by omega), low _ _ _ _ (by omega), low _ _ _ _ (by omega), low _ _ _ _ (by omega), s1, s2, show a + 1 + 1 = a + 2 from rfl, s3]
      grind
    · have e1 : ¬ (a + 2 = a) := by omega
      simp only [e1, if_false]
      have hF1 : Bd p (a + 3) (a + 3) (swapF F a (a + 2)) := swap_bd hF (by omega) (by omega)
      rw [detA1 (a := a + 1) h hp (elim_bd hp0 hF1), h.mod, h.mul, h.mod, h.neg]
      have s1 : swapF F a (a + 2) a = F (a + 2) := by unfold swapF putF; simp
      have s2 : swapF F a (a + 2) (a + 2) = F a := by unfold swapF putF; simp
      have s3 : swapF F a (a + 2) (a + 1) = F (a + 1) := by unfold swapF putF; simp
      rw [low _ _ _ _ (by omega), low _ _ _ _ (by omega), low _ _ _ _ (by omega), low _ _ _ _ (by omega), s1, show a + 1 + 1 = a + 2 from rfl, s2, s3]
      grind

/-- the determinant by rests -/
noncomputable def dt (n : Nat) (f : Nat → Nat → α) : α := match n with
  | 1 => f 0 0
  | 2 => f 0 0 * f 1 1 - f 0 1 * f 1 0
  | 3 => f 0 0 * (f 1 1 * f 2 2 - f 1 2 * f 2 1) - f 0 1 * (f 1 0 * f 2 2 - f 1 2 * f 2 0) + f 0 2 * (f 1 0 * f 2 1 - f 1 1 * f 2 0)
  | _ => 0
end
end Mine
end M2_part
section M3_part
open PySem PySem.Calls PyProof.Rows PySem.W
namespace Mine

section
variable {α : Type} [Lean.Grind.CommRing α]
noncomputable def sumR : Nat → (Nat → α) → α
  | 0, _ => 0
  | k + 1, g => sumR k g + g k
theorem sumR_congr {g g' : Nat → α} : ∀ {n : Nat}, (∀ i, i < n → g i = g' i) → sumR n g = sumR n g'
  | 0, _ => rfl
  | n + 1, h => by simp only [sumR]; rw [sumR_congr fun i hi => h i (by omega), h n (by omega)]
theorem sumR_lin (g g' : Nat → α) (k : α) : ∀ n, sumR n (fun c => g c - k * g' c) = sumR n g - k * sumR n g'
  | 0 => by simp only [sumR]; grind
  | n + 1 => by simp only [sumR]; rw [sumR_lin g g' k n]; grind
theorem sumR_mul (g : Nat → α) (k : α) : ∀ n, sumR n (fun c => g c * k) = sumR n g * k
  | 0 => by simp only [sumR]; grind
  | n + 1 => by simp only [sumR]; rw [sumR_mul g k n]; grind
theorem sumR_split (g : Nat → α) (n : Nat) : ∀ m, sumR (n + m) g = sumR n g + sumR m fun c => g (n + c)
  | 0 => by simp only [sumR, Nat.add_zero]; grind
  | m + 1 => by rw [← Nat.add_assoc]; simp only [sumR]; rw [sumR_split g n m]; grind
theorem sumR_zero {g : Nat → α} : ∀ {n : Nat}, (∀ i, i < n → g i = 0) → sumR n g = 0
  | 0, _ => rfl
  | n + 1, h => by simp only [sumR]; rw [sumR_zero fun i hi => h i (by omega), h n (by omega)]; grind
theorem sumR_delta {x : Nat → α} {r : Nat} : ∀ {n : Nat}, r < n → sumR n (fun c => x c * if r = c then 1 else 0) = x r
  | n + 1, h => by
    simp only [sumR]
    by_cases e : r = n
    · subst e
      rw [sumR_zero fun i hi => by rw [if_neg (by omega)]; grind, if_pos rfl]; grind
    · rw [sumR_delta (by omega), if_neg e]; grind
end

section
variable {p : Nat} {α : Type} [Lean.Grind.CommRing α] {φ : Int → α} (h : Hom p φ) (hp : p ∈ PL)
include h
theorem phi_sum (g : Nat → Int) : ∀ n, φ (sumN n g) = sumR n fun i => φ (g i)
  | 0 => h.zero
  | n + 1 => by simp only [sumN, sumR]; rw [h.add, phi_sum g n]
omit h
noncomputable def Kill (φ : Int → α) (n m : Nat) (u : Nat → α) (W : Mx) : Prop := ∀ r, r < n → sumR m (fun c => u c * φ (W r c)) = 0
noncomputable def Cols (φ : Int → α) (n a : Nat) (W : Mx) : Prop := ∀ j, j < a → ∀ r, r < n → φ (W r j) = if r = j then 1 else 0
include h hp

theorem step_ok {n m a : Nat} {F F' : Mx} (hF : Bd p n m F) (ha : a < n) (hm : a < m) (e : stepI p n a F = some F') (hc : Cols φ n a F) :
    Bd p n m F' ∧ (∀ u, Kill φ n m u F' → Kill φ n m u F) ∧ Cols φ n (a + 1) F' := by
  have hp0 : 0 < p := by have := PL_ge hp; omega
  unfold stepI at e
  cases hs : spots n F a with
  | nil => rw [hs] at e; cases e
  | cons s S =>
    rw [hs] at e
    simp only [Option.some.injEq] at e
    obtain ⟨h1, h2, h3⟩ := spots_mem (n := n) (F := F) (a := a) (s := s) (by rw [hs]; exact .head _)
    have hn := nz h hp hF h2 hm h3
    have hF1 : Bd p n m (swapF F a s) := swap_bd hF ha h2
    have saa : swapF F a s a = F s := by
      unfold swapF putF
      by_cases q : a = s
      · rw [if_pos q, q]
      · rw [if_neg q, if_pos rfl]
    have sss : swapF F a s s = F a := by unfold swapF putF; rw [if_pos rfl]
    have sot : ∀ r, r ≠ a → r ≠ s → swapF F a s r = F r := fun r q1 q2 => by unfold swapF putF; rw [if_neg q2, if_neg q1]
    generalize hG : swapF F a s = F1 at *
    have hn1 : φ (F1 a a) ≠ 0 := by rw [saa]; exact hn
    have hb := bk_inv h hp hn1
    generalize bk p (F1 a a) = b at *
    have hF2 : Bd p n m (scaleF p b a F1) := scale_bd hp0 hF1
    have e2a : ∀ c, φ (scaleF p b a F1 a c) = φ (F1 a c) * φ b := fun c => by unfold scaleF putF; rw [if_pos rfl, h.mod, h.mul]
    have e2o : ∀ r c, r ≠ a → scaleF p b a F1 r c = F1 r c := fun r c q => by unfold scaleF putF; rw [if_neg q]
    generalize scaleF p b a F1 = F2 at *
    subst e
    have e3a : ∀ c, redF p a F2 a c = F2 a c := fun c => by unfold redF; rw [if_neg (by simp)]
    have e3o : ∀ r c, r ≠ a → φ (redF p a F2 r c) = φ (F2 r c) - φ (F2 r a) * φ (F2 a c) := fun r c q => by
      unfold redF
      by_cases z : F2 r a = 0
      · rw [if_neg (by simp [z]), z, h.zero]; grind
      · rw [if_pos ⟨q, z⟩, h.mod, h.sub, h.mul]
    refine ⟨red_bd hp0 hF2, fun u hk => ?_, fun j hj r hr => ?_⟩
    · have k2a : sumR m (fun c => u c * φ (F2 a c)) = 0 := by
        have := hk a ha
        simpa only [e3a] using this
      have k2 : ∀ r, r < n → sumR m (fun c => u c * φ (F2 r c)) = 0 := fun r hr => by
        by_cases q : r = a
        · subst q; exact k2a
        · have e := hk r hr
          have e' : sumR m (fun c => u c * φ (redF p a F2 r c)) = sumR m (fun c => u c * φ (F2 r c)) - φ (F2 r a) * sumR m (fun c => u c * φ (F2 a c)) := by
            rw [← sumR_lin]
            refine sumR_congr fun c _ => ?_
            rw [e3o r c q]; grind
          rw [e', k2a] at e
          grind
      have k1a : sumR m (fun c => u c * φ (F1 a c)) = 0 := by
        have e' : sumR m (fun c => u c * φ (F2 a c)) = sumR m (fun c => u c * φ (F1 a c)) * φ b := by
          rw [← sumR_mul]
          refine sumR_congr fun c _ => ?_
          rw [e2a]; grind
        rw [e'] at k2a
        grind
      have k1 : ∀ r, r < n → sumR m (fun c => u c * φ (F1 r c)) = 0 := fun r hr => by
        by_cases q : r = a
        · subst q; exact k1a
        · have := k2 r hr
          simpa only [e2o r _ q] using this
      intro r hr
      by_cases q : r = a
      · subst q
        have := k1 s h2
        rw [sss] at this; exact this
      · by_cases q2 : r = s
        · subst q2
          have := k1 a ha
          rw [saa] at this; exact this
        · have := k1 r hr
          rw [sot r q q2] at this; exact this
    · -- the columns
      have c1 : ∀ j, j < a → ∀ r, r < n → φ (F1 r j) = if r = j then 1 else 0 := fun j hj r hr => by
        by_cases q : r = a
        · subst q; rw [saa, hc j hj s h2, if_neg (by omega), if_neg (by omega)]
        · by_cases q2 : r = s
          · subst q2; rw [sss, hc j hj a ha, if_neg (by omega), if_neg (by omega)]
          · rw [sot r q q2, hc j hj r hr]
      have c2 : ∀ j, j < a → ∀ r, r < n → φ (F2 r j) = if r = j then 1 else 0 := fun j hj r hr => by
        by_cases q : r = a
        · subst q; rw [e2a, c1 j hj r hr, if_neg (by omega)]; grind
        · rw [e2o r j q, c1 j hj r hr]
      have p2 : φ (F2 a a) = 1 := by rw [e2a]; exact hb
      by_cases q : r = a
      · subst q
        rw [e3a]
        by_cases z : j = r
        · subst z; rw [if_pos rfl]; exact p2
        · rw [if_neg (fun y => z y.symm), c2 j (by omega) r hr, if_neg (fun y => z y.symm)]
      · rw [e3o r j q]
        by_cases z : j = a
        · subst z; rw [p2, if_neg q]; grind
        · rw [c2 j (by omega) r hr, c2 j (by omega) a ha, if_neg (show ¬ a = j by omega)]; grind

theorem go_some {n m : Nat} (hm : n ≤ m) : ∀ (k a : Nat) (F W : Mx), a + k = n → Bd p n m F → Cols φ n a F → invGo p n k a F = some W → Bd p n m W ∧ (∀ u, Kill φ n m u W → Kill φ n m u F) ∧ Cols φ n n W
  | 0, a, F, W, hak, hF, hc, e => by
    simp only [invGo, Option.some.injEq] at e
    subst e
    have : a = n := by omega
    subst this
    exact ⟨hF, fun u k => k, hc⟩
  | k + 1, a, F, W, hak, hF, hc, e => by
    rw [invGo] at e
    cases hs : stepI p n a F with
    | none => rw [hs] at e; cases e
    | some F' =>
      rw [hs] at e
      obtain ⟨b1, b2, b3⟩ := step_ok h hp hF (by omega) (by omega) hs hc
      obtain ⟨d1, d2, d3⟩ := go_some hm k (a + 1) F' W (by omega) b1 b3 e
      exact ⟨d1, fun u hu => b2 u (d2 u hu), d3⟩
theorem go_none {n m : Nat} (hm : n ≤ m) : ∀ (k a : Nat) (F : Mx), a + k = n → Bd p n m F → Cols φ n a F → invGo p n k a F = none → ∃ a' G, a' < n ∧ Bd p n m G ∧ Cols φ n a' G ∧ spots n G a' = [] ∧ ∀ u, Kill φ n m u G → Kill φ n m u F
  | 0, a, F, hak, hF, hc, e => by simp [invGo] at e
  | k + 1, a, F, hak, hF, hc, e => by
    rw [invGo] at e
    cases hs : stepI p n a F with
    | none =>
      unfold stepI at hs
      cases hsp : spots n F a with
      | nil => exact ⟨a, F, by omega, hF, hc, hsp, fun u hu => hu⟩
      | cons s S => rw [hsp] at hs; cases hs
    | some F' =>
      rw [hs] at e
      obtain ⟨b1, b2, b3⟩ := step_ok h hp hF (by omega) (by omega) hs hc
      obtain ⟨a', G, g1, g2, g3, g4, g5⟩ := go_none hm k (a + 1) F' (by omega) b1 b3 e
      exact ⟨a', G, g1, g2, g3, g4, fun u hu => b2 u (g5 u hu)⟩

/-- the found inverse is one -/
theorem inv_unit {n : Nat} {F W : Mx} (hF : Bd p n n F) (e : invF p n F = some W) :
    Bd p n n (fun i j => W i (n + j)) ∧ ∀ a s, a < n → s < n → sumR n (fun k => φ (F a k) * φ (W k (n + s))) = if a = s then 1 else 0 := by
  have h2 := PL_ge hp
  obtain ⟨b1, b2, b3⟩ := go_some h hp (show n ≤ n + n by omega) n 0 _ _ (by omega) (wide_bd h2 hF) (fun j hj => by omega) e
  refine ⟨fun i j hi hj => b1 i (n + j) hi (by omega), fun a s ha hs => ?_⟩
  have kill := b2 (fun c => if c < n then - φ (W c (n + s)) else if c - n = s then 1 else 0) (fun r hr => by
    rw [sumR_split]
    have e1 : sumR n (fun c => (if c < n then - φ (W c (n + s)) else if c - n = s then 1 else 0) * φ (W r c)) = sumR n (fun c => (- φ (W c (n + s))) * if r = c then 1 else 0) := sumR_congr fun c hc => by rw [if_pos hc, b3 c hc r hr]
    have e2 : sumR n (fun c => (if n + c < n then - φ (W (n + c) (n + s)) else if n + c - n = s then 1 else 0) * φ (W r (n + c))) = sumR n (fun c => φ (W r (n + c)) * if s = c then 1 else 0) := sumR_congr fun c hc => by
      rw [if_neg (by omega)]
      by_cases z : s = c
      · rw [if_pos (by omega), if_pos z]; grind
      · rw [if_neg (by omega), if_neg z]; grind
    rw [e1, e2, sumR_delta hr, sumR_delta hs]
    grind) a ha
  rw [sumR_split] at kill
  have e1 : sumR n (fun c => (if c < n then - φ (W c (n + s)) else if c - n = s then 1 else 0) * φ (wideF n F a c)) = sumR n (fun c => (φ (F a c) * φ (W c (n + s))) * (-1)) := sumR_congr fun c hc => by
    unfold wideF
    rw [if_pos hc, if_pos hc]; grind
  have e2 : sumR n (fun c => (if n + c < n then - φ (W (n + c) (n + s)) else if n + c - n = s then 1 else 0) * φ (wideF n F a (n + c))) = sumR n (fun c => (if a = c then 1 else 0) * if s = c then 1 else 0) := sumR_congr fun c hc => by
    unfold wideF
    simp only [show ¬ (n + c < n) by omega, if_false, show n + c - n = c by omega]
    have c1 : φ (if c = a then 1 else 0) = if a = c then 1 else 0 := by
      by_cases z : a = c
      · rw [if_pos z.symm, if_pos z, h.one]
      · rw [if_neg (fun q => z q.symm), if_neg z, h.zero]
    have c2 : (if c = s then (1 : α) else 0) = if s = c then 1 else 0 := by
      by_cases z : s = c
      · rw [if_pos z.symm, if_pos z]
      · rw [if_neg (fun q => z q.symm), if_neg z]
    rw [c1, c2]; grind
  rw [e1, e2, sumR_mul, sumR_delta hs] at kill
  grind

/-- no inverse: a vector that the matrix kills -/
theorem inv_none {n : Nat} {F : Mx} (hF : Bd p n n F) (e : invF p n F = none) : ∃ (a : Nat) (u : Nat → α), a < n ∧ u a = 1 ∧ ∀ r, r < n → sumR n (fun c => u c * φ (F r c)) = 0 := by
  have h2 := PL_ge hp
  obtain ⟨a, G, g1, g2, g3, g4, g5⟩ := go_none h hp (show n ≤ n + n by omega) n 0 _ (by omega) (wide_bd h2 hF) (fun j hj => by omega) e
  refine ⟨a, fun c => if c < a then - φ (G c a) else if c = a then 1 else 0, g1, by simp, fun r hr => ?_⟩
  have kill := g5 (fun c => if c < a then - φ (G c a) else if c = a then 1 else 0) (fun r hr => by
    have en : n + n = a + (1 + (n + n - (a + 1))) := by omega
    rw [en, sumR_split, sumR_split]
    have e1 : sumR a (fun c => (if c < a then - φ (G c a) else if c = a then 1 else 0) * φ (G r c)) = sumR a (fun c => (- φ (G c a)) * if r = c then 1 else 0) := sumR_congr fun c hc => by rw [if_pos hc, g3 c hc r hr]
    have e2 : sumR 1 (fun c => (if a + c < a then - φ (G (a + c) a) else if a + c = a then 1 else 0) * φ (G r (a + c))) = φ (G r a) := by
      simp only [sumR, Nat.add_zero, Nat.lt_irrefl, if_false, if_true]; grind
    have e3 : sumR (n + n - (a + 1)) (fun c => (if a + (1 + c) < a then - φ (G (a + (1 + c)) a) else if a + (1 + c) = a then 1 else 0) * φ (G r (a + (1 + c)))) = 0 := sumR_zero fun c hc => by
      rw [if_neg (by omega), if_neg (by omega)]; grind
    rw [e1, e2, e3]
    by_cases z : r < a
    · rw [sumR_delta z]; grind
    · rw [sumR_zero fun c hc => by rw [if_neg (by omega)]; grind, spots_nil g4 (by omega) hr, h.zero]; grind) r hr
  rw [sumR_split] at kill
  have e1 : sumR n (fun c => (if c < a then - φ (G c a) else if c = a then 1 else 0) * φ (wideF n F r c)) = sumR n (fun c => (if c < a then - φ (G c a) else if c = a then 1 else 0) * φ (F r c)) := sumR_congr fun c hc => by
    unfold wideF
    rw [if_pos hc]
  have e2 : sumR n (fun c => (if n + c < a then - φ (G (n + c) a) else if n + c = a then 1 else 0) * φ (wideF n F r (n + c))) = 0 := sumR_zero fun c hc => by
    rw [if_neg (by omega), if_neg (by omega)]; grind
  rw [e1, e2] at kill
  grind
end
end Mine
end M3_part
section M4_part
open PySem PySem.Calls PyProof.Rows PySem.W
namespace Mine

theorem detL1 (F : Mx) : detL 1 F = F 0 0 := rfl
theorem detL2 (F : Mx) : detL 2 F = F 0 0 * F 1 1 - F 0 1 * F 1 0 := by
  simp [detL, sumN, minor]; grind
theorem detL3 (F : Mx) : detL 3 F = F 0 0 * (F 1 1 * F 2 2 - F 1 2 * F 2 1) - F 0 1 * (F 1 0 * F 2 2 - F 1 2 * F 2 0) + F 0 2 * (F 1 0 * F 2 1 - F 1 1 * F 2 0) := by
  simp [detL, sumN, minor]; grind

section
variable {p : Nat} {α : Type} [Lean.Grind.CommRing α] {φ : Int → α} (h : Hom p φ) (hp : p ∈ PL)
include h
theorem phi_det {n : Nat} (F : Mx) (h1 : 1 ≤ n) (h3 : n ≤ 3) : φ (detL n F) = dt n fun i j => φ (F i j) := by
  rcases (show n = 1 ∨ n = 2 ∨ n = 3 by omega) with rfl | rfl | rfl
  · rfl
  · rw [detL2]; simp only [h.sub, h.mul, dt]
  · rw [detL3]; simp only [h.sub, h.mul, h.add, dt]
include hp
theorem phi_detF {n : Nat} {F : Mx} (h1 : 1 ≤ n) (h3 : n ≤ 3) (hF : Bd p n n F) : φ (detF p n F) = dt n fun i j => φ (F i j) := by
  unfold detF
  rcases (show n = 1 ∨ n = 2 ∨ n = 3 by omega) with rfl | rfl | rfl
  · have := detA2 (a := 0) (f := 1) h hp hF
    rw [h.one] at this
    simp only [dt]
    rw [show detGo p 1 1 0 F 1 = detGo p (0 + 1) 1 0 F 1 from rfl, this]; grind
  · have := detA1 (a := 0) (f := 1) h hp hF
    rw [h.one] at this
    simp only [dt]
    rw [show detGo p 2 2 0 F 1 = detGo p (0 + 2) 2 0 F 1 from rfl, this]; grind
  · have := detA0 (a := 0) (f := 1) h hp hF
    rw [h.one] at this
    simp only [dt]
    rw [show detGo p 3 3 0 F 1 = detGo p (0 + 3) 3 0 F 1 from rfl, this]; grind
omit h
theorem det_range {n : Nat} : ∀ (k a : Nat) (F : Mx) (f : Int), 0 ≤ f → f < p → 0 ≤ detGo p n k a F f ∧ detGo p n k a F f < p
  | 0, a, F, f, h0, h1 => ⟨h0, h1⟩
  | k + 1, a, F, f, h0, h1 => by
    have hp0 : 0 < p := by have := PL_ge hp; omega
    rw [detGo]
    unfold stepD
    cases spots n F a with
    | nil => exact ⟨Int.le_refl 0, by simpa using hp0⟩
    | cons s S =>
      have := rest_bd hp0 ((if s = a then f else -f % (p : Int)) * (if s = a then F else swapF F a s) a a)
      exact det_range k (a + 1) _ _ this.1 this.2
end

section
variable {α : Type} [Lean.Grind.CommRing α]
/-- a vector that the matrix kills makes the determinant nought -/
theorem dt_kill {n : Nat} (h1 : 1 ≤ n) (h3 : n ≤ 3) {f : Nat → Nat → α} {u : Nat → α} {a : Nat} (ha : a < n) (hu : u a = 1) (hk : ∀ r, r < n → sumR n (fun c => u c * f r c) = 0) : dt n f = 0 := by
  rcases (show n = 1 ∨ n = 2 ∨ n = 3 by omega) with rfl | rfl | rfl
  · have k0 := hk 0 (by omega)
    have : a = 0 := by omega
    subst this
    simp only [sumR] at k0
    simp only [dt]
    grind
  · have k0 := hk 0 (by omega)
    have k1 := hk 1 (by omega)
    simp only [sumR] at k0 k1
    simp only [dt]
    rcases (show a = 0 ∨ a = 1 by omega) with rfl | rfl <;> grind
  · have k0 := hk 0 (by omega)
    have k1 := hk 1 (by omega)
    have k2 := hk 2 (by omega)
    simp only [sumR] at k0 k1 k2
    simp only [dt]
    rcases (show a = 0 ∨ a = 1 ∨ a = 2 by omega) with rfl | rfl | rfl
    · have e : u 0 * (f 0 0 * (f 1 1 * f 2 2 - f 1 2 * f 2 1) - f 0 1 * (f 1 0 * f 2 2 - f 1 2 * f 2 0) + f 0 2 * (f 1 0 * f 2 1 - f 1 1 * f 2 0)) =
        (f 1 1 * f 2 2 - f 1 2 * f 2 1) * (0 + u 0 * f 0 0 + u 1 * f 0 1 + u 2 * f 0 2) - (f 0 1 * f 2 2 - f 0 2 * f 2 1) * (0 + u 0 * f 1 0 + u 1 * f 1 1 + u 2 * f 1 2) + (f 0 1 * f 1 2 - f 0 2 * f 1 1) * (0 + u 0 * f 2 0 + u 1 * f 2 1 + u 2 * f 2 2) := by grind
      rw [k0, k1, k2] at e
      grind
    · have e : u 1 * (f 0 0 * (f 1 1 * f 2 2 - f 1 2 * f 2 1) - f 0 1 * (f 1 0 * f 2 2 - f 1 2 * f 2 0) + f 0 2 * (f 1 0 * f 2 1 - f 1 1 * f 2 0)) =
        (f 1 2 * f 2 0 - f 1 0 * f 2 2) * (0 + u 0 * f 0 0 + u 1 * f 0 1 + u 2 * f 0 2) + (f 0 0 * f 2 2 - f 0 2 * f 2 0) * (0 + u 0 * f 1 0 + u 1 * f 1 1 + u 2 * f 1 2) - (f 0 0 * f 1 2 - f 0 2 * f 1 0) * (0 + u 0 * f 2 0 + u 1 * f 2 1 + u 2 * f 2 2) := by grind
      rw [k0, k1, k2] at e
      grind
    · have e : u 2 * (f 0 0 * (f 1 1 * f 2 2 - f 1 2 * f 2 1) - f 0 1 * (f 1 0 * f 2 2 - f 1 2 * f 2 0) + f 0 2 * (f 1 0 * f 2 1 - f 1 1 * f 2 0)) =
        (f 1 0 * f 2 1 - f 1 1 * f 2 0) * (0 + u 0 * f 0 0 + u 1 * f 0 1 + u 2 * f 0 2) - (f 0 0 * f 2 1 - f 0 1 * f 2 0) * (0 + u 0 * f 1 0 + u 1 * f 1 1 + u 2 * f 1 2) + (f 0 0 * f 1 1 - f 0 1 * f 1 0) * (0 + u 0 * f 2 0 + u 1 * f 2 1 + u 2 * f 2 2) := by grind
      rw [k0, k1, k2] at e
      grind
/-- a right inverse: the determinants' product is one -/
theorem dt_unit {n : Nat} (h1 : 1 ≤ n) (h3 : n ≤ 3) {f g : Nat → Nat → α} (hk : ∀ a s, a < n → s < n → sumR n (fun k => f a k * g k s) = if a = s then 1 else 0) : dt n f * dt n g = 1 := by
  rcases (show n = 1 ∨ n = 2 ∨ n = 3 by omega) with rfl | rfl | rfl
  · have k00 := hk 0 0 (by omega) (by omega)
    simp only [sumR, if_true] at k00
    simp only [dt]
    grind
  · have k00 := hk 0 0 (by omega) (by omega)
    have k01 := hk 0 1 (by omega) (by omega)
    have k10 := hk 1 0 (by omega) (by omega)
    have k11 := hk 1 1 (by omega) (by omega)
    simp [sumR] at k00 k01 k10 k11
    simp only [dt]
    have e : (f 0 0 * f 1 1 - f 0 1 * f 1 0) * (g 0 0 * g 1 1 - g 0 1 * g 1 0) = (0 + f 0 0 * g 0 0 + f 0 1 * g 1 0) * (0 + f 1 0 * g 0 1 + f 1 1 * g 1 1) - (0 + f 0 0 * g 0 1 + f 0 1 * g 1 1) * (0 + f 1 0 * g 0 0 + f 1 1 * g 1 0) := by grind
    rw [e, k00, k01, k10, k11]; grind
  · have k00 := hk 0 0 (by omega) (by omega)
    have k01 := hk 0 1 (by omega) (by omega)
    have k02 := hk 0 2 (by omega) (by omega)
    have k10 := hk 1 0 (by omega) (by omega)
    have k11 := hk 1 1 (by omega) (by omega)
    have k12 := hk 1 2 (by omega) (by omega)
    have k20 := hk 2 0 (by omega) (by omega)
    have k21 := hk 2 1 (by omega) (by omega)
    have k22 := hk 2 2 (by omega) (by omega)
    simp [sumR] at k00 k01 k02 k10 k11 k12 k20 k21 k22
    have e : dt 3 f * dt 3 g = (0 + f 0 0 * g 0 0 + f 0 1 * g 1 0 + f 0 2 * g 2 0) * ((0 + f 1 0 * g 0 1 + f 1 1 * g 1 1 + f 1 2 * g 2 1) * (0 + f 2 0 * g 0 2 + f 2 1 * g 1 2 + f 2 2 * g 2 2) - (0 + f 1 0 * g 0 2 + f 1 1 * g 1 2 + f 1 2 * g 2 2) * (0 + f 2 0 * g 0 1 + f 2 1 * g 1 1 + f 2 2 * g 2 1))
      - (0 + f 0 0 * g 0 1 + f 0 1 * g 1 1 + f 0 2 * g 2 1) * ((0 + f 1 0 * g 0 0 + f 1 1 * g 1 0 + f 1 2 * g 2 0) * (0 + f 2 0 * g 0 2 + f 2 1 * g 1 2 + f 2 2 * g 2 2) - (0 + f 1 0 * g 0 2 + f 1 1 * g 1 2 + f 1 2 * g 2 2) * (0 + f 2 0 * g 0 0 + f 2 1 * g 1 0 + f 2 2 * g 2 0))
      + (0 + f 0 0 * g 0 2 + f 0 1 * g 1 2 + f 0 2 * g 2 2) * ((0 + f 1 0 * g 0 0 + f 1 1 * g 1 0 + f 1 2 * g 2 0) * (0 + f 2 0 * g 0 1 + f 2 1 * g 1 1 + f 2 2 * g 2 1) - (0 + f 1 0 * g 0 1 + f 1 1 * g 1 1 + f 1 2 * g 2 1) * (0 + f 2 0 * g 0 0 + f 2 1 * g 1 0 + f 2 2 * g 2 0)) := by
      simp only [dt]; grind
    rw [e, k00, k01, k02, k10, k11, k12, k20, k21, k22]; grind
end

theorem primeOk {n p : Nat} {F : Mx} (h1 : 1 ≤ n) (h3 : n ≤ 3) (hp : p ∈ PL) : PrimeOk n F p := by
  have h2 := PL_ge hp
  have hp0 : 0 < p := by omega
  haveI : NeZero p := ⟨by omega⟩
  have h := phi_hom p
  have hB : Bd p n n (restF p F) := restF_bd hp0
  have er : ∀ i j, phi p (restF p F i j) = phi p (F i j) := fun i j => h.mod _
  have ed : phi p (detL n F) = dt n fun i j => phi p (restF p F i j) := by
    rw [phi_det h F h1 h3]
    congr 1
    funext i j
    rw [er]
  have eu : ∀ W, invF p n (restF p F) = some W → ∀ a s, a < n → s < n → sumR n (fun k => phi p (restF p F a k) * phi p (W k (n + s))) = if a = s then 1 else 0 := fun W e => (inv_unit h hp hB e).2
  refine ⟨?_, ?_, fun W e => ⟨(inv_unit h hp hB e).1, fun a s ha hs => ?_⟩⟩
  · have e := phi_detF h hp h1 h3 hB
    rw [← ed, h.eq] at e
    have r : 0 ≤ detF p n (restF p F) ∧ detF p n (restF p F) < p := det_range hp n 0 _ 1 (by omega) (by omega)
    rw [Int.emod_eq_of_lt r.1 r.2] at e
    exact e
  · cases e : invF p n (restF p F) with
    | none =>
      obtain ⟨a, u, ha, hu, hk⟩ := inv_none h hp hB e
      have z := dt_kill h1 h3 ha hu hk
      rw [← ed, h.zero_iff] at z
      simp [z]
    | some W =>
      have z := dt_unit h1 h3 (g := fun k s => phi p (W k (n + s))) (eu W e)
      rw [← ed] at z
      have : ¬ detL n F % (p : Int) = 0 := fun q => by
        rw [← h.zero_iff] at q
        rw [q] at z
        exact h.ne h2 (by grind)
      simp [this]
  · have z := eu W e a s ha hs
    have e2 : phi p (sumN n fun k => F a k * W k (n + s)) = phi p (if a = s then 1 else 0) := by
      rw [phi_sum h]
      have : sumR n (fun k => phi p (F a k * W k (n + s))) = sumR n (fun k => phi p (restF p F a k) * phi p (W k (n + s))) := sumR_congr fun k _ => by rw [h.mul, er]
      rw [this, z]
      by_cases q : a = s
      · rw [if_pos q, if_pos q, h.one]
      · rw [if_neg q, if_neg q, h.zero]
    rw [h.eq] at e2
    rw [e2]
    split
    · exact Int.emod_eq_of_lt (by omega) (by omega)
    · simp
end Mine
end M4_part
section M5_part
open PySem PySem.Calls PyProof.Rows PySem.W
namespace Mine

theorem sum_le (l : List Nat) (b : Nat) (h : ∀ x ∈ l, x ≤ b) : l.sum ≤ l.length * b := by
  induction l with
  | nil => simp
  | cons x l ih =>
    have := ih fun y m => h y (.tail _ m)
    have := h x (.head _)
    simp only [List.sum_cons, List.length_cons, Nat.add_mul]
    omega
theorem rsum_le {n : Nat} {F : Mx} (hn : n ≤ 3) (hF : ∀ i j, i < n → j < n → -24 ≤ F i j ∧ F i j ≤ 24) : ∀ r ∈ listM n F, rsum r ≤ 72 := by
  intro r hr
  obtain ⟨i, hi, rfl⟩ := List.mem_map.mp hr
  have := sum_le (((List.range n).map (F i)).map Int.natAbs) 24 (fun x m => by
    rw [List.map_map] at m
    obtain ⟨j, hj, rfl⟩ := List.mem_map.mp m
    have := hF i j (List.mem_range.mp hi) (List.mem_range.mp hj)
    show (F i j).natAbs ≤ 24
    omega)
  simp only [List.length_map, List.length_range] at this
  unfold rsum
  omega
theorem bnd_le (m : List (List Int)) (h : ∀ r ∈ m, rsum r ≤ 72) : ∀ a, m.foldl (fun a r => a * rsum r) a ≤ a * 72 ^ m.length := by
  induction m with
  | nil => intro a; simp
  | cons r m ih =>
    intro a
    simp only [List.foldl_cons, List.length_cons]
    refine Nat.le_trans (ih (fun r m => h r (.tail _ m)) (a * rsum r)) ?_
    rw [Nat.pow_succ', ← Nat.mul_assoc]
    exact Nat.mul_le_mul_right _ (Nat.mul_le_mul_left _ (h r (.head _)))
theorem bnd_top {n : Nat} {F : Mx} (hn : n ≤ 3) (hF : ∀ i j, i < n → j < n → -24 ≤ F i j ∧ F i j ≤ 24) (i : Nat) : bnd ((listM n F).take i) ≤ 373248 := by
  have h := bnd_le ((listM n F).take i) (fun r m => rsum_le hn hF r (List.mem_of_mem_take m)) 1
  have hl : ((listM n F).take i).length ≤ 3 := by
    rw [List.length_take]; unfold listM; simp; omega
  have : 72 ^ ((listM n F).take i).length ≤ 72 ^ 3 := Nat.pow_le_pow_right (by omega) hl
  unfold bnd
  omega

theorem abs2 (a b c d : Int) : (a * d - b * c).natAbs ≤ a.natAbs * d.natAbs + b.natAbs * c.natAbs := by
  have := Int.natAbs_sub_le (a * d) (b * c)
  rw [Int.natAbs_mul, Int.natAbs_mul] at this
  exact this
theorem det_le {n : Nat} (F : Mx) (h1 : 1 ≤ n) (h3 : n ≤ 3) : (detL n F).natAbs ≤ bnd (listM n F) := by
  rcases (show n = 1 ∨ n = 2 ∨ n = 3 by omega) with rfl | rfl | rfl
  · simp [detL1, bnd, listM, rsum, List.range_succ]
  · rw [detL2]
    have e : bnd (listM 2 F) = ((F 0 0).natAbs + (F 0 1).natAbs) * ((F 1 0).natAbs + (F 1 1).natAbs) := by
      simp [bnd, listM, rsum, List.range_succ]
    rw [e]
    refine Nat.le_trans (abs2 _ _ _ _) ?_
    generalize (F 0 0).natAbs = a; generalize (F 0 1).natAbs = b; generalize (F 1 0).natAbs = c; generalize (F 1 1).natAbs = d
    simp only [Nat.add_mul, Nat.mul_add]
    omega
  · rw [detL3]
    have e : bnd (listM 3 F) = ((F 0 0).natAbs + (F 0 1).natAbs + (F 0 2).natAbs) * ((F 1 0).natAbs + (F 1 1).natAbs + (F 1 2).natAbs) * ((F 2 0).natAbs + (F 2 1).natAbs + (F 2 2).natAbs) := by
      simp [bnd, listM, rsum, List.range_succ, Nat.add_assoc]
    rw [e, Nat.mul_assoc]
    have m0 := abs2 (F 1 1) (F 1 2) (F 2 1) (F 2 2)
    have m1 := abs2 (F 1 0) (F 1 2) (F 2 0) (F 2 2)
    have m2 := abs2 (F 1 0) (F 1 1) (F 2 0) (F 2 1)
    generalize (F 1 1 * F 2 2 - F 1 2 * F 2 1) = d0 at *
    generalize (F 1 0 * F 2 2 - F 1 2 * F 2 0) = d1 at *
    generalize (F 1 0 * F 2 1 - F 1 1 * F 2 0) = d2 at *
    have t : (F 0 0 * d0 - F 0 1 * d1 + F 0 2 * d2).natAbs ≤ (F 0 0).natAbs * d0.natAbs + (F 0 1).natAbs * d1.natAbs + (F 0 2).natAbs * d2.natAbs := by
      have a1 := Int.natAbs_add_le (F 0 0 * d0 - F 0 1 * d1) (F 0 2 * d2)
      have a2 := Int.natAbs_sub_le (F 0 0 * d0) (F 0 1 * d1)
      rw [Int.natAbs_mul, Int.natAbs_mul] at a2
      rw [Int.natAbs_mul (F 0 2)] at a1
      omega
    refine Nat.le_trans t ?_
    generalize (F 0 0).natAbs = x0; generalize (F 0 1).natAbs = x1; generalize (F 0 2).natAbs = x2
    generalize hS : ((F 1 0).natAbs + (F 1 1).natAbs + (F 1 2).natAbs) * ((F 2 0).natAbs + (F 2 1).natAbs + (F 2 2).natAbs) = S
    have s0 : d0.natAbs ≤ S := by
      rw [← hS]; refine Nat.le_trans m0 ?_
      simp only [Nat.add_mul, Nat.mul_add]; omega
    have s1 : d1.natAbs ≤ S := by
      rw [← hS]; refine Nat.le_trans m1 ?_
      simp only [Nat.add_mul, Nat.mul_add]; omega
    have s2 : d2.natAbs ≤ S := by
      rw [← hS]; refine Nat.le_trans m2 ?_
      simp only [Nat.add_mul, Nat.mul_add]; omega
    rw [Nat.add_mul, Nat.add_mul]
    have q0 := Nat.mul_le_mul_left x0 s0
    have q1 := Nat.mul_le_mul_left x1 s1
    have q2 := Nat.mul_le_mul_left x2 s2
    omega

-- the primes behind a beginning
noncomputable def chL (first : Nat) : List Nat := if first = 1 then [2, 3, 5, 7, 11, 13, 17] else if first = 2 then [3, 5, 7, 11, 13, 17, 19] else if first ≤ 4 then [5, 7, 11, 13, 17, 19] else [7, 11, 13, 17, 19, 23]
noncomputable def chP (first k : Nat) : Nat := if k = 0 then first else (chL first).getD (k - 1) 0
noncomputable def chR (first k : Nat) : Nat := ((chL first).take k).foldl (· * ·) 1
noncomputable def leastB (p r : Nat) : Bool := decide (p < r) && isP r && (List.range' (p + 1) (r - p - 1)).all fun e => !isP e
theorem leastB_ok {p r : Nat} (h : leastB p r = true) : Least isP p r := by
  unfold leastB at h
  simp only [Bool.and_eq_true, decide_eq_true_eq, List.all_eq_true, List.mem_range', Bool.not_eq_true'] at h
  exact ⟨h.1.1, h.1.2, fun e h1 h2 => h.2 e ⟨e - (p + 1), by omega, by omega⟩⟩
noncomputable def chK (first : Nat) : Nat := (chL first).length
noncomputable def chOk (first : Nat) : Bool := (List.range (chK first)).all fun k => leastB (chP first k) (chP first (k + 1)) && decide (chP first (k + 1) ∈ PL) && (chR first (k + 1) == chR first k * chP first (k + 1)) && decide (Nat.gcd (chR first k) (chP first (k + 1)) = 1)
theorem ch_all : ∀ first ∈ [1, 2, 3, 4, 5, 6], (chOk first && decide (373248 < chR first (chK first)) && (List.range (chK first + 1)).all fun k => decide (chR first k < 2 ^ 59)) = true := by decide +kernel
theorem PL_lt {p : Nat} (hp : p ∈ PL) : p < 5000 := by
  have : ∀ p ∈ PL, p < 5000 := by decide
  exact this p hp

theorem chain_ok {first : Nat} (h1 : 1 ≤ first) (h6 : first ≤ 6) : Chain first (chK first) (chP first) (chR first) ∧ 373248 < chR first (chK first) ∧ (∀ k, k < chK first → chP first (k + 1) ∈ PL) ∧ ∀ k, k < chK first → Nat.gcd (chR first k) (chP first (k + 1)) = 1 := by
  have h := ch_all first (by simp only [List.mem_cons, List.not_mem_nil, or_false]; omega)
  rw [Bool.and_eq_true, Bool.and_eq_true] at h
  obtain ⟨⟨a, b⟩, c⟩ := h
  unfold chOk at a
  simp only [List.all_eq_true, List.mem_range, Bool.and_eq_true, decide_eq_true_eq, beq_iff_eq] at a b c
  refine ⟨⟨rfl, rfl, fun k hk => ⟨leastB_ok (a k hk).1.1.1, ?_⟩, fun k hk => (a k hk).1.2, fun k hk => c k (by omega)⟩, b, fun k hk => (a k hk).1.1.2, fun k hk => (a k hk).2⟩
  have := PL_lt (a k hk).1.1.2
  omega

theorem chain_mem {first K : Nat} {P pr : Nat → Nat} (C : Chain first K P pr) : ∀ k, k ≤ K → first ≤ P k ∧ ∀ e, first < e → e ≤ P k → isP e = true → ∃ i, 1 ≤ i ∧ i ≤ k ∧ e = P i
  | 0, _ => ⟨by rw [C.p0]; exact Nat.le_refl _, fun e h1 h2 _ => by rw [C.p0] at h2; omega⟩
  | k + 1, hk => by
    obtain ⟨h1, h2⟩ := chain_mem C k (by omega)
    obtain ⟨⟨a, b, c⟩, _⟩ := C.ps k (by omega)
    refine ⟨by omega, fun e q1 q2 q3 => ?_⟩
    by_cases z : e ≤ P k
    · obtain ⟨i, i1, i2, i3⟩ := h2 e q1 z q3
      exact ⟨i, i1, by omega, i3⟩
    · by_cases y : e = P (k + 1)
      · exact ⟨k + 1, by omega, Nat.le_refl _, y⟩
      · have := c e (by omega) (by omega)
        rw [this] at q3; cases q3

theorem foundOk {n first : Nat} {F : Mx} (hn1 : 1 ≤ n) (hn3 : n ≤ 3) (hF : ∀ i j, i < n → j < n → -24 ≤ F i j ∧ F i j ≤ 24) (h1 : 1 ≤ first) (h6 : first ≤ 6) : FoundOk n F first := by
  obtain ⟨C, hbig, hPL, hco⟩ := chain_ok h1 h6
  have hb := bnd_top hn3 hF (listM n F).length
  rw [List.take_length] at hb
  have po : ∀ k, k < chK first → PrimeOk n F (chP first (k + 1)) := fun k hk => primeOk hn1 hn3 (hPL k hk)
  refine ⟨det_le F hn1 hn3, chK first, chP first, chR first, C, by omega, ?_⟩
  by_cases hd : detL n F = 0
  · refine .inl ⟨hd, ?_⟩
    rintro ⟨k, W, hk, _, _, e⟩
    have := (po k hk).inv
    rw [e, hd] at this
    simp at this
  · -- the primes tried divide the determinant
    have dv : ∀ k, k < chK first → invF (chP first (k + 1)) n (restF (chP first (k + 1)) F) = none → chP first (k + 1) ∣ (detL n F).natAbs := fun k hk e => by
      have := (po k hk).inv
      rw [e] at this
      have z : detL n F % (chP first (k + 1) : Nat) = 0 := by simpa using this.symm
      have w := Int.dvd_of_emod_eq_zero z
      rwa [← Int.dvd_natAbs, Int.natCast_dvd_natCast] at w
    have pd : ∀ k, k ≤ chK first → noneUpto n F (chP first) k → chR first k ∣ (detL n F).natAbs := by
      intro k
      induction k with
      | zero => intro _ _; rw [C.pr0]; exact Nat.one_dvd _
      | succ k ih =>
        intro hk hno
        rw [C.prs k (by omega)]
        exact Nat.Coprime.mul_dvd_of_dvd_of_dvd (hco k (by omega)) (ih (by omega) fun i a b => hno i a (by omega)) (dv k (by omega) (hno (k + 1) (by omega) (Nat.le_refl _)))
    refine .inr ⟨hd, fun k hk hno => ?_, fun k W hk hno e => ?_⟩
    · have := Nat.le_of_dvd (by omega) (pd k hk hno)
      have := det_le F hn1 hn3
      omega
    · have hL := (C.ps k hk).1
      have hm := chain_mem C k (by omega)
      refine ⟨⟨by have := hL.1; omega, ?_, fun r r1 r2 => ?_⟩, PL_lt (hPL k hk), po k hk⟩
      · unfold goodP
        rw [hL.2.1]
        have := (po k hk).inv
        rw [e] at this
        have z : ¬ detL n F % (chP first (k + 1) : Nat) = 0 := by simpa using this.symm
        simp [z]
      · unfold goodP
        cases hr : isP r with
        | false => rfl
        | true =>
          have hrk : r ≤ chP first k := by
            rcases Nat.lt_or_ge (chP first k) r with q | q
            · have := hL.2.2 r q r2
              rw [this] at hr; cases hr
            · exact q
          obtain ⟨i, i1, i2, rfl⟩ := hm.2 r r1 hrk hr
          obtain ⟨j, rfl⟩ : ∃ j, i = j + 1 := ⟨i - 1, by omega⟩
          have := (po j (by omega)).inv
          rw [hno (j + 1) i1 i2] at this
          have z : detL n F % (chP first (j + 1) : Nat) = 0 := by simpa using this.symm
          simp [z]

theorem p211 : isP 211 = true := by decide +kernel
theorem mathOk : MathOk where
  prime n F p h1 h3 hF hp := primeOk h1 h3 (by
    simp only [List.mem_cons, List.not_mem_nil, or_false] at hp
    rcases hp with rfl | rfl | rfl | rfl <;> decide)
  found n F first h1 h3 hF a b := foundOk h1 h3 hF a b
  sums n F h3 hF := ⟨fun r m => by have := rsum_le h3 hF r m; omega, fun i => by have := bnd_top h3 hF i; omega⟩
  next m hm := ⟨211, by omega, p211, by omega⟩
end Mine
end M5_part
section Hd_part
open PySem PySem.W PyProof.Rows
namespace Mine
noncomputable def vw : Program := view PySem.Challenge.pw_pq0536_01 [1,2,3,4,5,6,8,10,11,12,13,14,15,16,17,18,20,21,22,23,24,25,26,27,28,29,30]
noncomputable def seenS (s : Shared) : Bool := xlAt vw [] s && recOk (RowW.records PySem.Challenge.rw_pq0536_01.row.toRowW) s
theorem left0 : LeftO PySem.Challenge.rw_pq0536_01.row.prog vw [] seenS (Hook.obs Hook.none) (Hook.val Hook.none) 2838 := fun w => by
  unfold openEnds fencedOpening topFrom
  rw [PySem.W.Fast.te14364793385576792824, PySem.W.Fast.te10274390034422433532, PySem.W.Fast.te14082659384304107361, PySem.W.Fast.te14289696077712309145, PySem.W.Fast.te1435165496053646825, PySem.W.Fast.te8920871248978507458, PySem.W.Fast.te4187177175401517315]
  kernel_rfl
theorem said0 : PySem.Challenge.rw_pq0536_01.wellSaid = true := by
  rw [PySem.W.Fast.te9446332074065402090]
  kernel_rfl
end Mine
end Hd_part
section Top_part
open PySem PySem.W PyProof.Rows
namespace Mine
noncomputable def recOf : Stmt → DefRec
  | .FunctionDef n a b _ _ _ s _ _ p => ⟨n, a, b, s, p⟩
  | _ => ⟨default, default, [], default, default⟩
noncomputable def fnIx : List Nat := [4,5,6,8,10,11,12,13,14,15,16,17,18,20,21,22,23,24,25,26,27,28,29,30]
theorem ix_all : ((List.range 31).all fun j => !(4 ≤ j && j != 7 && j != 9 && j != 19) || fnIx.contains j) = true := by decide
theorem rec_nm (s : Stmt) : (recOf s).name = nmOf s := by cases s <;> rfl
theorem rec_pa (s : Stmt) : (recOf s).params = paOf s := by cases s <;> rfl
theorem rec_bo (s : Stmt) : (recOf s).body = boOf s := by cases s <;> rfl
theorem rec_sc (s : Stmt) : (recOf s).scope = scOf s := by cases s <;> rfl
theorem fns_of {p : Program} {loose : List Str} {mean : ExcName → Option Value} {mg mb : Str → Option Value} {h : Heap} (T : Top p loose mean mg mb h) (e : recsOf p = fnIx.map fun i => recOf (stOf i)) : Fns h mg := ⟨fun i h1 h2 h3 h4 h5 => by
  have hi : i ∈ fnIx := by
    have := List.all_eq_true.mp ix_all i (List.mem_range.mpr h5)
    simpa [h1, h2, h3, h4] using this
  have hm : recOf (stOf i) ∈ recsOf p := by rw [e]; exact List.mem_map_of_mem hi
  have q := T.fn _ hm
  rw [rec_nm, rec_pa, rec_bo, rec_sc] at q
  exact ⟨q⟩⟩
theorem glb_of {p : Program} {loose : List Str} {mean : ExcName → Option Value} {mg mb : Str → Option Value} {h : Heap} (T : Top p loose mean mg mb h) (e : (bnames.all fun x => !(startupNames.contains x) && !(loose.contains x) && !(((recsOf p).map (·.name)).contains x) && !(((litsOf p).map (·.1)).contains x) && !(((clssOf p loose).map (·.name)).contains x)) = true) : Glb h mg := by
  rw [List.all_eq_true] at e
  refine ⟨T.g, ⟨mb, T.b, fun x hx => T.builtins x ?_⟩, T.nolimit, fun x hx => ?_⟩
  · rintro rfl
    revert hx; decide
  · have := e x hx
    simp only [Bool.and_eq_true, Bool.not_eq_true', List.contains_eq_mem, decide_eq_false_iff_not] at this
    exact T.free x this.1.1.1.1 this.1.1.1.2 this.1.1.2 this.1.2 this.2
theorem top_inv {h h₁ : Heap} {m : Str → Option Value} {fa l : Addr} {cd : Value} {vs : List Value} {ns : List Int} {o : Obj} {v : Option Value} (F : Fr h h.objs.size h₁ m) (hm : m "script" = some (.ref l)) (N : News h h.objs.size h₁ [(h.objs.size + 1, o)]) (hd : o.data = .cell v) (hl : h.IsList l vs.toArray) (hi : IntsAre vs ns) :
    Inv h (envOfC (nmOf (stOf 30)) (scOf (stOf 30)) h.objs.size fa cd) none [] [] [vV "script" (.list (ns.map AV.int))] h₁ ∧ Lo h (envOfC (nmOf (stOf 30)) (scOf (stOf 30)) h.objs.size fa cd) := by
  have ec : (envOfC (nmOf (stOf 30)) (scOf (stOf 30)) h.objs.size fa cd).cells = [(("number" : Str), (h.objs.size + 1 : Addr))] := rfl
  obtain ⟨n1, n2, n3⟩ := N _ (.head _)
  refine ⟨{ fk := rfl, gl := ⟨rfl, rfl⟩, ns := ⟨_, F.ns⟩, rd := fun x t g => ?_, cs := fun y c q => ?_, ap := by rw [ec]; exact List.pairwise_singleton _ _, ox := fun _ q => (nomatch q), ob := fun _ q => (nomatch q), xs := fun _ q => (nomatch q), bs := F.keep, li := fun _ e => (nomatch e) }, ⟨get_size _, fun y c q => ?_⟩⟩
  · unfold Sg.get at g
    split at g
    · rename_i q; subst q; cases g
      exact ⟨_, .inl ⟨rfl, _, F.ns, hm⟩, .list (by simp) (hl.at fun o => F.keep _ o) (RVs.ofInts hi) .nil⟩
    · cases g
  · rw [ec, List.mem_singleton] at q
    cases q
    exact ⟨v, o, n1, hd⟩
  · rw [ec, List.mem_singleton] at q
    cases q
    exact n3
theorem own_spec : specOf vw "NoInverse" = some ("Exception.__new__", bmE) := by kernel_rfl
end Mine
end Top_part
open PySem PySem.W PyProof.Rows Mine
set_option maxRecDepth 100000 in
set_option maxHeartbeats 8000000 in
theorem PySem.Challenge.cw_pq0536_01_holds : PySem.Challenge.rw_pq0536_01.Holds := by
  w_on
  refine holds_law said0 fun said => ?_
  refine holds_open (q := vw) (loose := []) (Xt := seenS) (XP := XL vw []) (Yf := Hook.obs Hook.none) (Ya := Hook.val Hook.none) (YP := Hook.says Hook.none) (N := 2838) left0 (Hook.of Hook.none) (Hook.keeps Hook.none) (fun s e => xl_of s (Bool.and_eq_true_iff.mp e).1) XL.keeps (by rfl) (by rfl) (by rfl) (fun s e => recFacts_of (Bool.and_eq_true_iff.mp e).2) (by rfl) (by first | assumption | decide +kernel) (by decide +kernel) ⟨rfl, rfl, rfl, rfl, rfl, by decide +kernel⟩ ?hw ?hc
  (case hw => w_witness2)
  w_strict (
    intro w s₀ s₁ mg mb G Y fa o pm cd doc dV kV ho hd hcd hD hmg hg args vals as hpre hlay hrd hwl hlo
    refine Ground.open G ?_
    intro T B D TE TW
    try (refine guard_noD D (by decide +kernel) ?_; clear D)
    obtain ⟨_, _, M⟩ := bmod_of_top T
    try (obtain ⟨_, _, he, B0⟩ := based_of_top T rfl hmg ho hd; have he' : cd = _ := he; subst he'; clear he)
    clear hmg
    wrow_args hpre hlay hrd hwl hlo
    refine enter_call ?_
    w_top on
    try refine codeAny_mono ?_ (fun _ _ g => GoodW.toG g)
    have K0 := below_caller (Top.heap T)
    w_call any ho hd hcd hD T F
    rename Top _ _ _ _ _ _ => T
    rename Fr _ _ _ _ => F
    rename News _ _ _ _ => N0
    rename (_ : Heap).IsList _ _ => hL
    rename IntsAre _ _ => hI
    rename _ = Data.cell _ => hcell
    rename (_ : Shared).gens = #[] => hg
    rename ¬ (_ : Int) < _ => hlen
    have H := fns_of T (by kernel_rfl)
    have G := glb_of T (by kernel_rfl)
    have W : ∃ C, PyProof.Rows.OwnCls "NoInverse" C bmE "Exception.__new__" _ _ := let ⟨C, O, _⟩ := T.ownAt own_spec; ⟨C, O.own⟩
    have Z : Wrld _ _ := ⟨H, G, W, mathOk⟩
    obtain ⟨I, L⟩ := top_inv (by assumption) rfl N0 hcell hL hI
    refine wpAny_mono (law_main Z ⟨rfl, Nat.le_of_ble_eq_true rfl, Nat.le_of_ble_eq_true rfl⟩ (Around.frames_deeper rfl) L I (by omega)) (fun f s' h => ?_) (fun _ _ x => x)
    obtain ⟨rfl, ⟨h', tk, rfl⟩, hk⟩ := h
    refine ⟨.inl ⟨_, _, _, rfl, raisesW_false (by wrow_none_raised), .bool true, ?_, unshared_nil⟩, hk, rfl, hg⟩
    refine' PySem.W.postW_of ?pS ?pV ?pE
    (case pS => o_shape)
    (case pV => wtm_val)
    (case pE => rfl))
