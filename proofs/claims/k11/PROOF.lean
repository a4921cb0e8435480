import PyProof.Rows.All
import Wide.All
import OpenK.AllK
import Wide.FinOn
import HandS.ForMost
import HandS.Property
import HandS.Deep
import HandS.Conv
import HandS.IsInst
import HandS.Wide
import HandS.WideBits
import HandS.TupAny
import HandS.Defaults
import PySem.Challenge.RW_drawnorders_k11_whole_nets
import KE.KStateDown
import HandS.Ends
import HandS.HeadEnd
import HandS.Head0
import HandS.Head1
import HandS.Head2
import HandS.HeadHook1
import HandS.HeadHook2
import KE.DataEq
import HandS.Walk
import Lean
set_option Elab.async false
set_option linter.all false
set_option maxRecDepth 100000
set_option maxHeartbeats 4000000
/-! B0: frames of the heap, data, the bundle of a def, two rules. -/
namespace K11
open PySem PySem.Spec PyProof.Rows L2

/-! ### frames -/
theorem same_up {H : Hp} {p : Addr} {o : HO} (h : H p = none) : Same H (upd H p o) := fun b u e => by
  rw [upd_ne (ne_of_none e h)]; exact e
/-- a new object -/
theorem al {H : Hp} {o : HO} {Q : VK} (h : ∀ p H', H p = none → Same H H' → H' p = some o → Q (.ref p) H') : ∀ p, H p = none → Q (.ref p) (upd H p o) :=
  fun p hp => h p _ hp (same_up hp) upd_same
/-- an object that H0 did not know is changed -/
theorem Same.mut {H0 H : Hp} {p : Addr} {o : HO} (e : Same H0 H) (h : H0 p = none) : Same H0 (upd H p o) := fun b u q => by
  rw [upd_ne (ne_of_none q h)]; exact e b u q
theorem Same.sqt {K : PySem.W.Frag} {H H' : Hp} {a : Addr} {xs : List V} (e : Same H H') (h : SqT K H a xs) : SqT K H' a xs := by
  rcases h with (h | ⟨o, h⟩) | h
  · exact .inl (.inl (e _ _ h))
  · exact .inl (.inr ⟨o, e _ _ h⟩)
  · exact .inr h
/-- a stream of draws stands at s -/
def Strm (H : Hp) (s : Addr) : Prop := ∃ x c m : Int, H s = some (.lst [.int x, .int c, .int m])
/-- all but the stream is as it was -/
structure Stm (s : Addr) (H H' : Hp) : Prop where
  keep : ∀ b o, b ≠ s → H b = some o → H' b = some o
  st : Strm H' s
theorem Stm.refl {s : Addr} {H : Hp} (h : Strm H s) : Stm s H H := ⟨fun _ _ _ e => e, h⟩
theorem Strm.same {s : Addr} {H H' : Hp} (h : Strm H s) (e : Same H H') : Strm H' s := by
  obtain ⟨x, c, m, h⟩ := h
  exact ⟨x, c, m, e _ _ h⟩
theorem Stm.of {s : Addr} {H H' : Hp} (h : Strm H s) (e : Same H H') : Stm s H H' := ⟨fun b o _ q => e b o q, h.same e⟩
theorem Stm.trans {s : Addr} {H H1 H2 : Hp} (a : Stm s H H1) (b : Stm s H1 H2) : Stm s H H2 := ⟨fun c o n q => b.keep c o n (a.keep c o n q), b.st⟩
theorem Stm.then {s : Addr} {H H1 H2 : Hp} (a : Stm s H H1) (b : Same H1 H2) : Stm s H H2 := ⟨fun c o n q => b c o (a.keep c o n q), a.st.same b⟩
theorem Stm.free {s : Addr} {H H' : Hp} (a : Stm s H H') {p : Addr} (h : H' p = none) : H p = none := by
  cases q : H p with
  | none => rfl
  | some o =>
    obtain ⟨x, c, m, hs⟩ := a.st
    have n : p ≠ s := fun e => by rw [e, hs] at h; cases h
    rw [a.keep p o n q] at h
    cases h
theorem Strm.ne {s p : Addr} {H : Hp} (h : Strm H s) (hp : H p = none) : p ≠ s := fun e => by
  obtain ⟨x, c, m, hs⟩ := h
  rw [e, hs] at hp
  cases hp
/-- a list that H0 did not know is changed; it is not the stream -/
theorem Stm.mut {s : Addr} {H0 H : Hp} {p : Addr} {o : HO} (a : Stm s H0 H) (h : H0 p = none) (n : p ≠ s) : Stm s H0 (upd H p o) := ⟨fun b u nb q => by
  rw [upd_ne (ne_of_none q h)]; exact a.keep b u nb q, by
  obtain ⟨x, c, m, hs⟩ := a.st
  exact ⟨x, c, m, by rw [upd_ne n.symm]; exact hs⟩⟩
theorem Stm.new {s : Addr} {H0 H : Hp} {p : Addr} {o : HO} (a : Stm s H0 H) (h : H p = none) : Stm s H0 (upd H p o) := a.then (same_up h)

/-! ### data -/
section
variable {K : PySem.W.Frag} {H H' : Hp}
mutual
theorem Dp.same (e : Same H H') : ∀ (d : PyData) (v : V), Dp K H v d → Dp K H' v d
  | .none, _, h => by cases h; exact .non
  | .bool b, _, h => by cases h; exact .bl b
  | .int i, _, h => by cases h; exact .int i
  | .str x, _, h => by cases h; exact .str x
  | .list ds, _, h => by
    cases h with
    | lst hs ha => exact .lst (e.seq hs) (Dp.sameAll e ds _ ha)
  | .tuple ds, _, h => by
    cases h with
    | tup hs ha => exact .tup (K11.Same.sqt e hs) (Dp.sameAll e ds _ ha)
  | .dict _, _, h => by cases h
theorem Dp.sameAll (e : Same H H') : ∀ (ds : List PyData) (vs : List V), DpAll K H vs ds → DpAll K H' vs ds
  | [], _, h => by cases h; exact .nil
  | d :: ds, _, h => by
    cases h with
    | cons h1 h2 => exact .cons (Dp.same e d _ h1) (Dp.sameAll e ds _ h2)
end
/-- no list of three ints within: it cannot be the stream -/
def i3 : List PyData → Bool
  | [.int _, .int _, .int _] => true
  | _ => false
mutual
def n3 : PyData → Bool
  | .none => true
  | .bool _ => true
  | .int _ => true
  | .str _ => true
  | .list ds => !i3 ds && n3A ds
  | .tuple ds => n3A ds
  | .dict _ => true
def n3A : List PyData → Bool
  | [] => true
  | d :: ds => n3 d && n3A ds
end
theorem dp_int {v : V} {i : Int} (h : Dp K H v (.int i)) : v = .int i := by cases h; rfl
theorem dp_bl {v : V} {b : Bool} (h : Dp K H v (.bool b)) : v = .bl b := by cases h; rfl
theorem i3_of {ds : List PyData} {x c m : Int} (h : DpAll K H [.int x, .int c, .int m] ds) : i3 ds = true := by
  cases h with
  | cons h1 h => cases h with
    | cons h2 h => cases h with
      | cons h3 h =>
        cases h
        cases h1
        cases h2
        cases h3
        rfl
theorem Stm.sql {s a : Addr} {xs : List V} (e : Stm s H H') (h : SqL K H a xs) (n : a ≠ s) : SqL K H' a xs := by
  rcases h with (h | ⟨o, h⟩) | h
  · exact .inl (.inl (e.keep _ _ n h))
  · exact .inl (.inr ⟨o, e.keep _ _ n h⟩)
  · exact .inr h
theorem Stm.sqt {s a : Addr} {xs : List V} (e : Stm s H H') (hs : Strm H s) (h : SqT K H a xs) : SqT K H' a xs := by
  obtain ⟨x, c, m, hs⟩ := hs
  rcases h with (h | ⟨o, h⟩) | h
  · exact .inl (.inl (e.keep _ _ (fun z => by rw [z, hs] at h; cases h) h))
  · exact .inl (.inr ⟨o, e.keep _ _ (fun z => by rw [z, hs] at h; cases h) h⟩)
  · exact .inr h
mutual
theorem Stm.dp {s : Addr} (e : Stm s H H') (hs : Strm H s) : ∀ (d : PyData) (v : V), n3 d = true → Dp K H v d → Dp K H' v d
  | .none, _, _, h => by cases h; exact .non
  | .bool b, _, _, h => by cases h; exact .bl b
  | .int i, _, _, h => by cases h; exact .int i
  | .str x, _, _, h => by cases h; exact .str x
  | .list ds, _, n, h => by
    rw [n3, Bool.and_eq_true, Bool.not_eq_true'] at n
    cases h with
    | @lst a xs _ hl ha =>
      refine .lst ?_ (Stm.dpAll e hs ds _ n.2 ha)
      rcases hl with (h | ⟨o, h⟩) | h
      · by_cases z : a = s
        · obtain ⟨x, c, m, hs⟩ := hs
          rw [z, hs] at h
          cases h
          rw [i3_of ha] at n
          exact absurd n.1 (by simp)
        · exact .inl (.inl (e.keep _ _ z h))
      · obtain ⟨x, c, m, hs⟩ := hs
        exact .inl (.inr ⟨o, e.keep _ _ (fun z => by rw [z, hs] at h; cases h) h⟩)
      · exact .inr h
  | .tuple ds, _, n, h => by
    rw [n3] at n
    cases h with
    | tup hl ha => exact .tup (Stm.sqt e hs hl) (Stm.dpAll e hs ds _ n ha)
  | .dict _, _, _, h => by cases h
theorem Stm.dpAll {s : Addr} (e : Stm s H H') (hs : Strm H s) : ∀ (ds : List PyData) (vs : List V), n3A ds = true → DpAll K H vs ds → DpAll K H' vs ds
  | [], _, _, h => by cases h; exact .nil
  | d :: ds, _, n, h => by
    rw [n3A, Bool.and_eq_true] at n
    cases h with
    | cons h1 h2 => exact .cons (Stm.dp e hs d _ n.1 h1) (Stm.dpAll e hs ds _ n.2 h2)
end
theorem dpa_len {vs : List V} {ds : List PyData} (h : DpAll K H vs ds) : vs.length = ds.length := by
  induction ds generalizing vs with
  | nil => cases h; rfl
  | cons d ds ih => cases h with
    | cons h1 h2 => rw [List.length_cons, List.length_cons, ih h2]
theorem dpa_get {vs : List V} {ds : List PyData} (h : DpAll K H vs ds) {i : Nat} {v : V} (e : vs[i]? = some v) : ∃ d, ds[i]? = some d ∧ Dp K H v d := by
  induction ds generalizing vs i with
  | nil => cases h; simp at e
  | cons d ds ih => cases h with
    | cons h1 h2 =>
      cases i with
      | zero => simp at e; subst e; exact ⟨d, rfl, h1⟩
      | succ i => exact ih h2 (by simpa using e)
theorem dpa_at {vs : List V} {ds : List PyData} (h : DpAll K H vs ds) {i : Nat} {d : PyData} (e : ds[i]? = some d) : ∃ v, vs[i]? = some v ∧ Dp K H v d := by
  induction ds generalizing vs i with
  | nil => simp at e
  | cons d' ds ih => cases h with
    | cons h1 h2 =>
      cases i with
      | zero => simp at e; subst e; exact ⟨_, rfl, h1⟩
      | succ i => exact ih h2 (by simpa using e)
theorem dpa_app {vs ws : List V} {ds es : List PyData} (h : DpAll K H vs ds) (g : DpAll K H ws es) : DpAll K H (vs ++ ws) (ds ++ es) := by
  induction ds generalizing vs with
  | nil => cases h; exact g
  | cons d ds ih => cases h with
    | cons h1 h2 => exact .cons h1 (ih h2)
theorem dpa_one {v : V} {d : PyData} (h : Dp K H v d) : DpAll K H [v] [d] := .cons h .nil
theorem dpa_of {vs : List V} {ds : List PyData} (hl : vs.length = ds.length) (h : ∀ (i : Nat) v d, vs[i]? = some v → ds[i]? = some d → Dp K H v d) : DpAll K H vs ds := by
  induction ds generalizing vs with
  | nil => cases vs with
    | nil => exact .nil
    | cons v vs => simp at hl
  | cons d ds ih => cases vs with
    | nil => simp at hl
    | cons v vs => exact .cons (h 0 v d rfl rfl) (ih (by simpa using hl) fun i v' d' e1 e2 => h (i + 1) v' d' e1 e2)
theorem dpa_ints (ns : List Int) : DpAll K H (ns.map V.int) (ns.map PyData.int) := by
  induction ns with
  | nil => exact .nil
  | cons n ns ih => exact .cons (.int n) ih
theorem dpa_ints_eq {vs : List V} {ns : List Int} (h : DpAll K H vs (ns.map PyData.int)) : vs = ns.map V.int := by
  induction ns generalizing vs with
  | nil => cases h; rfl
  | cons n ns ih => cases h with
    | cons h1 h2 => rw [ih h2, dp_int h1]; rfl
theorem dpa_bls (ns : List Bool) : DpAll K H (ns.map V.bl) (ns.map PyData.bool) := by
  induction ns with
  | nil => exact .nil
  | cons n ns ih => exact .cons (.bl n) ih
theorem dpa_bls_eq {vs : List V} {ns : List Bool} (h : DpAll K H vs (ns.map PyData.bool)) : vs = ns.map V.bl := by
  induction ns generalizing vs with
  | nil => cases h; rfl
  | cons n ns ih => cases h with
    | cons h1 h2 => rw [ih h2, dp_bl h1]; rfl
theorem dpa_perm {vs ws : List V} (p : ws.Perm vs) : ∀ {ds : List PyData}, DpAll K H vs ds → ∃ es, es.Perm ds ∧ DpAll K H ws es := by
  induction p with
  | nil => intro ds h; exact ⟨ds, .refl _, h⟩
  | cons x _ ih =>
    intro ds h
    cases h with
    | cons h1 h2 =>
      obtain ⟨es, p, q⟩ := ih h2
      exact ⟨_, p.cons _, .cons h1 q⟩
  | swap x y l =>
    intro ds h
    cases h with
    | cons h1 h2 => cases h2 with
      | cons h2 h3 => exact ⟨_, .swap _ _ _, .cons h2 (.cons h1 h3)⟩
  | trans _ _ ih1 ih2 =>
    intro ds h
    obtain ⟨es, p, q⟩ := ih2 h
    obtain ⟨fs, p', q'⟩ := ih1 q
    exact ⟨fs, p'.trans p, q'⟩
theorem dp_lst {v : V} {ds : List PyData} (h : Dp K H v (.list ds)) : ∃ a xs, v = .ref a ∧ SqL K H a xs ∧ DpAll K H xs ds := by
  cases h with
  | lst hs ha => exact ⟨_, _, rfl, hs, ha⟩
theorem dp_tup {v : V} {ds : List PyData} (h : Dp K H v (.tuple ds)) : ∃ a xs, v = .ref a ∧ SqT K H a xs ∧ DpAll K H xs ds := by
  cases h with
  | tup hs ha => exact ⟨_, _, rfl, hs, ha⟩
end
/-- a list of one's own, with what it holds -/
def LA (K : PySem.W.Frag) (H : Hp) (a : Addr) (ds : List PyData) : Prop := ∃ xs, H a = some (.lst xs) ∧ DpAll K H xs ds
theorem LA.dp {K : PySem.W.Frag} {H : Hp} {a : Addr} {ds : List PyData} (h : LA K H a ds) : Dp K H (.ref a) (.list ds) := by
  obtain ⟨xs, h1, h2⟩ := h
  exact .lst (SqL.of h1) h2
theorem LA.same {K : PySem.W.Frag} {H H' : Hp} {a : Addr} {ds : List PyData} (h : LA K H a ds) (e : Same H H') : LA K H' a ds := by
  obtain ⟨xs, h1, h2⟩ := h
  exact ⟨xs, e _ _ h1, Dp.sameAll e _ _ h2⟩
/-- sizes -/
theorem sz {n : Nat} (h : n ≤ 1000000) : n ≤ sizeLine := Nat.le_trans h (by decide)
theorem szl {n : Nat} (h : n < 1000000) : n < sizeLine := Nat.lt_of_lt_of_le h (by decide)

/-! ### the bundle of a def -/
/-- a def of the text, as it stands behind the top, by its name -/
def TD (K : PySem.W.Frag) (mg : Str → Option Value) (x : Str) (st : Stmt) : Prop :=
  ∃ f fd, FunD K x x (defArgs st) (defBody st) (defScope st) [] [] f fd ∧ mg x = some (.ref f)
/-- .. that keeps a promise -/
def Df (P : Program) (w : World) (K : PySem.W.Frag) (mg : Str → Option Value) (base : Heap) (k : Nat) (x : Str) (sp : Sp) : Prop :=
  ∃ f fd ps, FnOk P w K mg base CX0 k f fd ps sp ∧ mg x = some (.ref f) ∧ PySem.W.keepIn K (.ref f) = true ∧ Binds K fd ps []
section
variable {P : Program} {w : World} {K : PySem.W.Frag} {mg : Str → Option Value} {base : Heap}
theorem df_mk {x : Str} {st : Stmt} {N ps : List Str} {k : Nat} {sp : Sp} (T : TD K mg x st) (S : FnScope N ps (defScope st))
    (bi : ∀ (kV doc pm : Value) (an : Option Addr) (cdv ct : Value) (us : List Value), us.length = ps.length → bindArgs (PySem.W.fnOf x x (defArgs st) (defBody st) (defScope st) .none kV doc pm an cdv ct) ⟨us, []⟩ = pure (ps.zip us))
    (len : ∀ vs H Q E, sp vs H Q E → vs.length = ps.length)
    (hb : ∀ (f : Addr) (cdv : Value) (A : Around) (outer : List Env) (s : Shared) (H : Hp) (vs : List V) (Q : VK) (E : XK), Room k (A.deeper (envOfC x (defScope st) s.heap.objs.size f cdv)) → sp vs H Q E →
      ∃ t, PSs (cxOf CX0 P w K mg base N x (defScope st) f cdv A outer s H E).nox (defBody st) t ∧ t { nx := fun _ H' => Q .non H', rt := Q } (start N vs) H) : Df P w K mg base (k + 1) x sp := by
  obtain ⟨f, fd, F, hm⟩ := T
  refine ⟨f, fd, ps, F.ok S len fun cdv A outer s H vs Q E hr hs => ?_, hm, F.kp, F.bindsN bi⟩
  obtain ⟨t, ht, q⟩ := hb f cdv A outer s H vs Q E hr hs
  exact ⟨t, PSs.nox ht, q⟩
theorem Df.imp {k : Nat} {x : Str} {sp sp' : Sp} (D : Df P w K mg base k x sp) (h : ∀ vs H Q E, sp' vs H Q E → sp vs H Q E) : Df P w K mg base k x sp' := by
  obtain ⟨f, fd, ps, F, a, b, c⟩ := D
  exact ⟨f, fd, ps, F.imp h, a, b, c⟩
end
theorem pe_df {X : Cx} {k j : Nat} {x : Str} {sp : Sp} {p pos : Pos} {e : Expr} {es : List Expr} {t : TA} (c : Df X.prog X.w X.K X.mg X.base k x sp) (hr : Room j X.A) (hk : k ≤ j) (hg : Gl X x) (ha : PA X (e :: es) t)
    (hdb : (x == ("__debug__" : Str)) = false := by decide) (he : starEach (e :: es) X.env = (false, eval e X.env) :: starEach es X.env := by rfl) (hpl : (backTo pos (starEach es X.env)).any (·.1) = false := by rfl) :
    PE X (.Call (.Name x p) (e :: es) [] pos) (tCall sp [] E0 t) := by
  obtain ⟨f, fd, ps, F, hm, kp, b⟩ := c
  exact pe_call F (hr.mono hk) hg hm kp b .nil pass0 ha hdb he hpl

/-! ### repr of data -/
def rRepr (K : PySem.W.Frag) : List V → Hp → VK → Prop := fun xs H Q => ∃ (a : Addr) (d : PyData), xs = [.ref a] ∧ Dp K H (.ref a) d ∧ d.showable = true ∧ d.hasDict = false ∧ d.depth ≤ 20 ∧ d.shown.length ≤ sizeLine ∧ Q (.str d.shown) H
theorem call_reprD {X : Cx} {k : Nat} (hr : Room k X.A) (hg : X.A.guards = some []) : CallR X (.builtin "repr") (rRepr X.K) := by
  intro pins s σ H xs us Q I r h
  obtain ⟨a, d, rfl, hd, hs, hn, hp, hz, q⟩ := h
  cases r with
  | cons r1 r2 =>
    cases r2
    obtain ⟨as, r3⟩ := Dp.reads I d _ _ hd r1
    cases r1
    have hu := hr.units
    exact repr_of_reads' r3 hs (PyData.noDict_hsm hn) hg (by omega) (fun _ _ e => e) (fun h' u tk hk => ⟨.str d.shown, H, I.kept (t' := tk) hk, ⟨u, rfl⟩, q⟩) hz

/-! ### match on a written text -/
section
variable {X : Cx}
/-- match subject: case a: x | case ..: the cases as a chain of tests -/
structure PM (X : Cx) (cs : List MatchCase) (t : Str → TS) : Prop where
  run : ∀ (pins : List (Addr × Obj)) (s : Shared) (σ : L2.St) (H : Hp) (D : Ends) (z : Str) (u : Tok) (b : Bool), Inv X pins σ H s → t z D σ H → wpAny (model X.prog X.w) X.A (matchCases cs X.env (.str z u) b) (SP X pins D) X.xe s
def mNil : Str → TS := fun _ D σ H => D.nx σ H
def mCase (x : Str) (t : TS) (r : Str → TS) : Str → TS := fun z D σ H => if z = x then t D σ H else r z D σ H
theorem pm_nil : PM X [] mNil := ⟨fun pins s σ H D z u b I h => wpAny_matchCases_nil (show SP X pins D .next s from ⟨σ, H, I, h⟩)⟩
theorem pm_case {x : Str} {p q : Pos} {j} {body : List Stmt} {rest : List MatchCase} {t : TS} {r : Str → TS} (hb : PSs X body t) (hr : PM X rest r) :
    PM X (⟨.MatchValue (.Constant (.str x) j p) q, none, body⟩ :: rest) (mCase x t r) := by
  refine ⟨fun pins s σ H D z u b I h => ?_⟩
  refine wpAny_matchCases_cons (wpAny_matchPattern_Value ?_)
  refine thn ((pe_str (x := x) (X := X)).run pins s σ H (fun v H1 => v = .str x ∧ H1 = H) I ⟨rfl, rfl⟩) fun v s1 ⟨y, H1, I1, r1, q1⟩ => ?_
  obtain ⟨rfl, rfl⟩ := q1
  refine thn (op_eq (X := X) pins s1 σ _ (.str z) (.str x) (.str z u) v (fun c H2 => c = .bl (decide (V.str z = V.str x)) ∧ H2 = H1) I1 ⟨u, rfl⟩ r1 ⟨rfl, rfl, rfl⟩) fun c s2 ⟨y2, H2, I2, r2, q2⟩ => ?_
  obtain ⟨rfl, rfl⟩ := q2
  cases r2
  refine wpAny_truthy_bool ?_
  by_cases e : z = x
  · subst e
    have h : t D σ H2 := by
      have h0 : (if z = z then t D σ H2 else r z D σ H2) := h
      rwa [if_pos rfl] at h0
    rw [decide_eq_true rfl]
    show wpAny _ _ (assignInOrder [] []) _ _ _
    exact wpAny_assignInOrder_none (hb.run pins s2 σ H2 D I2 h)
  · have h : r z D σ H2 := by
      have h0 : (if z = x then t D σ H2 else r z D σ H2) := h
      rwa [if_neg e] at h0
    rw [decide_eq_false (fun q => e (V.str.inj q))]
    exact hr.run pins s2 σ H2 D z u false I2 h
def tMatch (te : TE) (t : Str → TS) : TS := fun D σ H => te σ H fun v H1 => ∃ z, v = .str z ∧ t z D σ H1
theorem ps_match {e : Expr} {te : TE} {cs : List MatchCase} {t : Str → TS} {pos : Pos} (he : PE X e te) (hc : PM X cs t) : PS X (.Match e cs pos) (tMatch te t) := by
  refine ⟨fun pins s σ H D I h => ?_⟩
  refine wpAny_Match (thn (he.run pins s σ H _ I h) fun v s1 ⟨x, H1, I1, r1, z, ex, q⟩ => ?_)
  subst ex
  obtain ⟨u, rfl⟩ := r1
  exact hc.run pins s1 σ H1 D z u true I1 q
end
end K11
set_option maxHeartbeats 4000000
/-! B1: the text by places, what the top has left, the stream of draws. -/
namespace K11
open PySem PySem.Spec PyProof.Rows L2

def topS (i : Nat) : Stmt := PySem.Challenge.pw_drawnorders_k11_whole_nets.main.body.getD i (.Pass ⟨0, 0, 0, 0⟩)
/-- the built-in names that the text calls are the boot's -/
structure Blt (mg : Str → Option Value) : Prop where
  b_len : mg "len" = none
  b_int : mg "int" = none
  b_bool : mg "bool" = none
  b_list : mg "list" = none
  b_range : mg "range" = none
  b_tuple : mg "tuple" = none
  b_any : mg "any" = none
  b_all : mg "all" = none
  b_max : mg "max" = none
  b_repr : mg "repr" = none
  b_isinstance : mg "isinstance" = none
  b_enumerate : mg "enumerate" = none
theorem hu_of65 {A : Around} {k : Nat} (hr : Room k A) : A.units + 65 < cLine := by have := hr.un; omega
theorem atn {xs : List V} {i : Nat} {v : V} (h : xs[i]? = some v) : atI xs (i : Int) = some v := atI_nat h

abbrev s_law_cell : Stmt := topS 57
abbrev N_law_cell : List Str := ["_law_script", "_law_k"]
theorem sc_law_cell : FnScope N_law_cell ["_law_script", "_law_k"] (defScope s_law_cell) := ⟨rfl, rfl, rfl, by decide +kernel, rfl, by decide +kernel, by decide +kernel⟩
def spCell (K : PySem.W.Frag) : Sp := fun vs H Q _ => ∃ (a : Addr) (ns : List Int) (k : Nat), vs = [.ref a, .int k] ∧ SqL K H a (ns.map V.int) ∧ ∀ z : Int, Q (.int z) H
section
variable {P : Program} {w : World} {K : PySem.W.Frag} {mg : Str → Option Value} {base : Heap}
theorem d_cell (T : Blt mg) (t : TD K mg "_law_cell" s_law_cell) : Df P w K mg base 1 "_law_cell" (spCell K) := by
  refine df_mk t sc_law_cell (fun _ _ _ _ _ _ us hl => match us, hl with | [_, _], _ => rfl) (fun vs H Q E h => ?_) (fun f cdv A outer s H vs Q E hr h => ?_)
  · obtain ⟨a, ns, k, rfl, _⟩ := h; rfl
  obtain ⟨a, ns, k, rfl, hS, q⟩ := h
  refine ⟨_, pss_cons (ps_if (pt_cmpR op_lt (pv 1) (pe_callB call_len_seq rfl T.b_len (by decide +kernel) (pa_cons (pv 0) pa_nil)) (nomark _))
      (pss_one (ps_ret (pe_ix ix_seq (pv 0) (pv 1) (fun _ _ => rfl))))
      (pss_nil))
      (pss_one (ps_ret (pe_int))), ?_⟩
  refine ⟨_, rfl, _, rfl, a, _, rfl, .inl hS, _, _, rfl, rfl, _, rfl, ite2 (fun c => ?_) (fun c => ?_)⟩
  · have c := of_decide_eq_true c
    have hk : k < ns.length := by simp at c; omega
    exact ⟨_, rfl, _, rfl, .inl ⟨a, _, k, _, rfl, rfl, hS, atn (v := .int ns[k]) (by simp [hk]), q _⟩⟩
  · exact q 0

abbrev s_law_stream : Stmt := topS 58
abbrev N_law_stream : List Str := ["_law_cell_here"]
theorem sc_law_stream : FnScope N_law_stream ["_law_cell_here"] (defScope s_law_stream) := ⟨rfl, rfl, rfl, by decide +kernel, rfl, by decide +kernel, by decide +kernel⟩
def spStream : Sp := fun vs H Q _ => ∃ z : Int, vs = [.int z] ∧ ∀ s H', H s = none → Same H H' → Strm H' s → Q (.ref s) H'
theorem d_stream (T : Blt mg) (t : TD K mg "_law_stream" s_law_stream) : Df P w K mg base 1 "_law_stream" spStream := by
  refine df_mk t sc_law_stream (fun _ _ _ _ _ _ us hl => match us, hl with | [_], _ => rfl) (fun vs H Q E h => ?_) (fun f cdv A outer s H vs Q E hr h => ?_)
  · obtain ⟨z, rfl, _⟩ := h; rfl
  obtain ⟨z, rfl, q⟩ := h
  refine ⟨_, pss_cons (ps_if (pt_cmpR op_ge (pv 0) (pe_op op_pow (pe_int) (pe_int)) (nomark _))
      (pss_one (ps_ret (pe_lst (pa_cons (pv 0) (pa_cons (pe_int) (pa_cons (pe_op op_mod (pe_callTy call_int1 rfl T.b_int (by decide +kernel) (pa_cons (pv 0) pa_nil)) (pe_int)) pa_nil))))))
      (pss_nil))
      (pss_one (ps_ret (pe_lst (pa_cons (pe_int) (pa_cons (pe_int) (pa_cons (pe_op op_mod (pe_callTy call_int1 rfl T.b_int (by decide +kernel) (pa_cons (pv 0) pa_nil)) (pe_int)) pa_nil)))))), ?_⟩
  refine ⟨_, rfl, _, _, rfl, rfl, ⟨by decide, by decide, by decide⟩, _, _, rfl, rfl, _, rfl, ite2 (fun _ => ?_) (fun _ => ?_)⟩
  · exact ⟨_, rfl, _, rfl, .inl ⟨_, rfl, _, _, rfl, rfl, (by show (0 : Int) < 1000003; decide), sz (by show 3 ≤ 1000000; decide), al fun p H' np e hp => q p H' np e ⟨_, _, _, hp⟩⟩⟩
  · exact ⟨_, rfl, .inl ⟨_, rfl, _, _, rfl, rfl, (by show (0 : Int) < 1000000007; decide), sz (by show 3 ≤ 1000000; decide), al fun p H' np e hp => q p H' np e ⟨_, _, _, hp⟩⟩⟩

abbrev s_law_draw : Stmt := topS 59
abbrev N_law_draw : List Str := ["_law_stream_here", "_law_many", "_law_digit", "_law_mixed_here"]
theorem sc_law_draw : FnScope N_law_draw ["_law_stream_here", "_law_many"] (defScope s_law_draw) := ⟨rfl, rfl, rfl, by decide +kernel, rfl, by decide +kernel, by decide +kernel⟩
def spDraw : Sp := fun vs H Q _ => ∃ (s : Addr) (n : Nat), vs = [.ref s, .int n] ∧ Strm H s ∧ 0 < n ∧ n ≤ 100000 ∧ ∀ (d : Nat) H', d < n → Stm s H H' → Q (.int d) H'
theorem strm_upd {s : Addr} {H : Hp} {x c m : Int} {Q : Hp → Prop} (h : ∀ H', Stm s H H' → H' s = some (.lst [.int x, .int c, .int m]) → Q H') : Q (upd H s (.lst [.int x, .int c, .int m])) :=
  h _ ⟨fun b o n e => by rw [upd_ne n]; exact e, _, _, _, upd_same⟩ upd_same
theorem at0 {x y z : V} : atI [x, y, z] (0 : Int) = some x := atn (i := 0) rfl
theorem at1 {x y z : V} : atI [x, y, z] (1 : Int) = some y := atn (i := 1) rfl
theorem at2 {x y z : V} : atI [x, y, z] (2 : Int) = some z := atn (i := 2) rfl
theorem emod_nat {a : Int} {n : Nat} (h : 0 < n) : ∃ d : Nat, a % (n : Int) = (d : Int) ∧ d < n := by
  have h1 := Int.emod_nonneg a (b := (n : Int)) (by omega)
  have h2 := Int.emod_lt_of_pos a (b := (n : Int)) (by omega)
  exact ⟨(a % (n : Int)).toNat, by omega, by omega⟩
theorem modn {Q : V → Prop} {a : Int} {n : Nat} (h : 0 < n) (q : ∀ d : Nat, d < n → Q (.int d)) : Q (.int (a % (n : Int))) := by
  obtain ⟨d, e, hd⟩ := emod_nat (a := a) h
  rw [e]
  exact q d hd
theorem d_draw (T : Blt mg) (t : TD K mg "_law_draw" s_law_draw) : Df P w K mg base 1 "_law_draw" spDraw := by
  refine df_mk t sc_law_draw (fun _ _ _ _ _ _ us hl => match us, hl with | [_, _], _ => rfl) (fun vs H Q E h => ?_) (fun f cdv A outer s₀ H vs Q E hr h => ?_)
  · obtain ⟨s, n, rfl, _⟩ := h; rfl
  obtain ⟨s, n, rfl, hs, n0, n1, q⟩ := h
  obtain ⟨x, c, m, hs⟩ := hs
  refine ⟨_, pss_cons (ps_if (pt_cmpR op_gt (pe_ix ix_seq (pv 0) (pe_int) (fun _ _ => rfl)) (pe_int) (nomark _))
      (pss_cons (ps_set (i := 2) sc_law_draw.nd rfl (.inl rfl) (pe_op op_mod (pe_callTy call_int1 rfl T.b_int (by decide +kernel) (pa_cons (pe_ix ix_seq (pv 0) (pe_int) (fun _ _ => rfl)) pa_nil)) (pv 1)))
      (pss_cons (ps_asg (pe_op op_fdivW (pe_ix ix_seq (pv 0) (pe_int) (fun _ _ => rfl)) (pv 1)) (pg_sub (pv 0) (pe_int) set_list))
      (pss_one (ps_ret (pv 2)))))
      (pss_nil))
      (pss_cons (ps_asg (pe_op op_add (pe_ix ix_seq (pv 0) (pe_int) (fun _ _ => rfl)) (pe_int)) (pg_sub (pv 0) (pe_int) set_list))
      (pss_cons (ps_set (i := 3) sc_law_draw.nd rfl (.inl rfl) (pe_op op_mod (pe_callTy call_int1 rfl T.b_int (by decide +kernel) (pa_cons (pe_op op_add (pe_op op_mul (pe_ix ix_seq (pv 0) (pe_int) (fun _ _ => rfl)) (pe_int)) (pe_op op_mul (pe_ix ix_seq (pv 0) (pe_int) (fun _ _ => rfl)) (pe_int))) pa_nil)) (pe_int)))
      (pss_cons (ps_set (i := 3) sc_law_draw.nd rfl (.inl rfl) (pe_op op_mod (pe_callTy call_int1 rfl T.b_int (by decide +kernel) (pa_cons (pe_op op_add (pe_op op_add (pe_op op_mul (pv 3) (pv 3)) (pe_op op_mul (pe_ix ix_seq (pv 0) (pe_int) (fun _ _ => rfl)) (pe_int))) (pe_op op_fdiv (pv 3) (pe_int))) pa_nil)) (pe_int)))
      (pss_cons (ps_set (i := 3) sc_law_draw.nd rfl (.inl rfl) (pe_op op_mod (pe_callTy call_int1 rfl T.b_int (by decide +kernel) (pa_cons (pe_op op_add (pe_op op_mul (pv 3) (pe_int)) (pe_ix ix_seq (pv 0) (pe_int) (fun _ _ => rfl))) pa_nil)) (pe_int)))
      (pss_one (ps_ret (pe_op op_mod (pe_callTy call_int1 rfl T.b_int (by decide +kernel) (pa_cons (pe_op op_fdiv (pv 3) (pe_int)) pa_nil)) (pv 1)))))))), ?_⟩
  have hS : SqL K H s [.int x, .int c, .int m] := SqL.of hs
  refine ⟨_, rfl, .inl ⟨s, _, 0, _, rfl, rfl, hS, at0, _, _, rfl, rfl, _, rfl, ite2 (fun _ => ?_) (fun _ => ?_)⟩⟩
  · refine ⟨_, rfl, .inl ⟨s, _, 0, _, rfl, rfl, hS, at0, .inl ⟨_, rfl, _, rfl, _, _, rfl, rfl, (by show (0 : Int) < n; omega), ?_⟩⟩⟩
    refine ⟨_, rfl, .inl ⟨s, _, 0, _, rfl, rfl, hS, at0, _, rfl, _, _, rfl, rfl, wide_div (b := 60) (by omega) (by rw [Int.natAbs_natCast]; exact Nat.lt_of_le_of_lt n1 (by decide)) (by decide) (by decide), ?_⟩⟩
    refine ⟨_, rfl, s, _, 0, 0, rfl, rfl, hs, rfl, ?_⟩
    refine strm_upd (x := x / (n : Int)) (c := c) (m := m) fun H' e hs' => ?_
    refine ⟨_, rfl, ?_⟩
    exact modn (Q := fun v => Q v H') n0 fun d hd => q d H' hd e
  · refine ⟨_, rfl, .inl ⟨s, _, 1, _, rfl, rfl, hS, at1, _, _, rfl, rfl, ?_⟩⟩
    refine ⟨_, rfl, s, _, 1, 1, rfl, rfl, hs, rfl, ?_⟩
    refine strm_upd (x := x) (c := c + 1) (m := m) fun H' e hs' => ?_
    have hS' : SqL K H' s [.int x, .int (c + 1), .int m] := SqL.of hs'
    refine ⟨_, rfl, .inl ⟨s, _, 2, _, rfl, rfl, hS', at2, _, _, rfl, rfl, .inr ⟨by decide, by decide⟩, _, rfl, .inl ⟨s, _, 1, _, rfl, rfl, hS', at1, _, _, rfl, rfl, .inr ⟨by decide, by decide⟩, _, _, rfl, rfl, .inl ⟨_, rfl, _, _, rfl, rfl, (by show (0 : Int) < 2147483647; decide), ?_⟩⟩⟩⟩
    refine ⟨_, rfl, _, rfl, _, _, rfl, rfl, .inl ⟨by omega, by omega⟩, _, rfl, .inl ⟨s, _, 1, _, rfl, rfl, hS', at1, _, _, rfl, rfl, .inr ⟨by decide, by decide⟩, _, _, rfl, rfl, _, rfl, _, _, rfl, rfl, ⟨by decide, by decide⟩, _, _, rfl, rfl, .inl ⟨_, rfl, _, _, rfl, rfl, (by show (0 : Int) < 2147483629; decide), ?_⟩⟩⟩
    refine ⟨_, rfl, _, _, rfl, rfl, .inr ⟨by decide, by decide⟩, _, rfl, .inl ⟨s, _, 2, _, rfl, rfl, hS', at2, _, _, rfl, rfl, .inl ⟨_, rfl, _, _, rfl, rfl, (by show (0 : Int) < 2147483647; decide), ?_⟩⟩⟩
    refine ⟨_, rfl, _, _, rfl, rfl, ⟨by decide, by decide⟩, .inl ⟨_, rfl, _, rfl, _, _, rfl, rfl, (by show (0 : Int) < n; omega), ?_⟩⟩
    exact modn (Q := fun v => Q v H') n0 fun d hd => q d H' hd e
end
end K11
set_option maxHeartbeats 0
/-! H1: the head: what the top leaves, by one run in the kernel. -/
namespace K11
namespace Hd
open PySem PySem.Spec PyProof.Rows L2
def loose0 : List PySem.Str := ["arc_fault", "draw_arcs", "OrderError", "BadSize", "BadPair", "Ring", "MOST", "elements_of", "mask_of", "found_ring", "closed_masks", "Order", "forest_fault", "parent_of", "draw_forest", "neighbours", "components", "height_in", "tree_of", "join_fault", "draw_joins", "heights", "level_fault", "draw_levels", "lower_sets", "crossed", "span_fault", "draw_spans", "forced", "forced_from"]
def loose1 : List PySem.Str := ["apart_masks", "ring_of", "turn_fault", "first_arc", "directed", "row_of", "draw_rows", "tall_fault", "unit_fault", "demands", "raised", "ring_through", "least_starts", "least_length", "draw_unit", "draw", "_law_cell", "_law_stream", "_law_draw", "_law_mixed", "_law_closed", "_law_pairs", "_law_apart", "_law_all_apart", "_law_covers", "_law_upper", "_law_is_integer", "_law_are_integers", "_law_any_pairs", "_law_any_spans"]
def loose2 : List PySem.Str := ["_law_by_spans", "_law_by_rows", "_law_any_tree", "_law_tree_members", "_law_by_tree", "_law_any_arcs", "_law_by_arcs", "_law_any_parents", "_law_by_parents", "_law_by_ranks", "_law_crown", "_law_family", "_law_any_order", "_law_told", "_law_is_short", "_law_are_pairs", "_law_is_row", "_law_is_tree", "_law_table_of_tree", "_law_table_of_parents", "_law_table_of_rows", "_law_table_of_unit", "_law_table_of", "_law_members", "_law_bars_rows", "_law_bars_four", "_law_bars", "_law_has_bar", "_law_right", "_law_arcs_of"]
def loose : List PySem.Str := loose0 ++ loose1 ++ loose2
def fnA : List He.DefD := [
  ⟨("arc_fault", none), "arc_fault", "arc_fault", defArgs (topS 1), defBody (topS 1), defScope (topS 1), [], []⟩,
  ⟨("draw_arcs", none), "draw_arcs", "draw_arcs", defArgs (topS 2), defBody (topS 2), defScope (topS 2), [], []⟩,
  ⟨("elements_of", none), "elements_of", "elements_of", defArgs (topS 10), defBody (topS 10), defScope (topS 10), [], []⟩,
  ⟨("mask_of", none), "mask_of", "mask_of", defArgs (topS 11), defBody (topS 11), defScope (topS 11), [], []⟩,
  ⟨("found_ring", none), "found_ring", "found_ring", defArgs (topS 12), defBody (topS 12), defScope (topS 12), [], []⟩,
  ⟨("closed_masks", none), "closed_masks", "closed_masks", defArgs (topS 13), defBody (topS 13), defScope (topS 13), [], []⟩,
  ⟨("draw", none), "draw", "draw", defArgs (topS 55), defBody (topS 55), defScope (topS 55), [], []⟩,
  ⟨("_law_cell", none), "_law_cell", "_law_cell", defArgs (topS 57), defBody (topS 57), defScope (topS 57), [], []⟩,
  ⟨("_law_stream", none), "_law_stream", "_law_stream", defArgs (topS 58), defBody (topS 58), defScope (topS 58), [], []⟩,
  ⟨("_law_draw", none), "_law_draw", "_law_draw", defArgs (topS 59), defBody (topS 59), defScope (topS 59), [], []⟩,
  ⟨("_law_mixed", none), "_law_mixed", "_law_mixed", defArgs (topS 60), defBody (topS 60), defScope (topS 60), [], []⟩,
  ⟨("_law_closed", none), "_law_closed", "_law_closed", defArgs (topS 61), defBody (topS 61), defScope (topS 61), [], []⟩,
  ⟨("_law_pairs", none), "_law_pairs", "_law_pairs", defArgs (topS 62), defBody (topS 62), defScope (topS 62), [], []⟩,
  ⟨("_law_covers", none), "_law_covers", "_law_covers", defArgs (topS 65), defBody (topS 65), defScope (topS 65), [], []⟩,
  ⟨("_law_upper", none), "_law_upper", "_law_upper", defArgs (topS 66), defBody (topS 66), defScope (topS 66), [], []⟩,
  ⟨("_law_is_integer", none), "_law_is_integer", "_law_is_integer", defArgs (topS 67), defBody (topS 67), defScope (topS 67), [], []⟩]
def fnB : List He.DefD := [
  ⟨("_law_are_integers", none), "_law_are_integers", "_law_are_integers", defArgs (topS 68), defBody (topS 68), defScope (topS 68), [], []⟩,
  ⟨("_law_any_pairs", none), "_law_any_pairs", "_law_any_pairs", defArgs (topS 69), defBody (topS 69), defScope (topS 69), [], []⟩,
  ⟨("_law_any_spans", none), "_law_any_spans", "_law_any_spans", defArgs (topS 70), defBody (topS 70), defScope (topS 70), [], []⟩,
  ⟨("_law_by_spans", none), "_law_by_spans", "_law_by_spans", defArgs (topS 71), defBody (topS 71), defScope (topS 71), [], []⟩,
  ⟨("_law_by_rows", none), "_law_by_rows", "_law_by_rows", defArgs (topS 72), defBody (topS 72), defScope (topS 72), [], []⟩,
  ⟨("_law_any_tree", none), "_law_any_tree", "_law_any_tree", defArgs (topS 73), defBody (topS 73), defScope (topS 73), [], []⟩,
  ⟨("_law_tree_members", none), "_law_tree_members", "_law_tree_members", defArgs (topS 74), defBody (topS 74), defScope (topS 74), [], []⟩,
  ⟨("_law_by_tree", none), "_law_by_tree", "_law_by_tree", defArgs (topS 75), defBody (topS 75), defScope (topS 75), [], []⟩,
  ⟨("_law_any_arcs", none), "_law_any_arcs", "_law_any_arcs", defArgs (topS 76), defBody (topS 76), defScope (topS 76), [], []⟩,
  ⟨("_law_by_arcs", none), "_law_by_arcs", "_law_by_arcs", defArgs (topS 77), defBody (topS 77), defScope (topS 77), [], []⟩,
  ⟨("_law_any_parents", none), "_law_any_parents", "_law_any_parents", defArgs (topS 78), defBody (topS 78), defScope (topS 78), [], []⟩,
  ⟨("_law_by_parents", none), "_law_by_parents", "_law_by_parents", defArgs (topS 79), defBody (topS 79), defScope (topS 79), [], []⟩,
  ⟨("_law_by_ranks", none), "_law_by_ranks", "_law_by_ranks", defArgs (topS 80), defBody (topS 80), defScope (topS 80), [], []⟩,
  ⟨("_law_crown", none), "_law_crown", "_law_crown", defArgs (topS 81), defBody (topS 81), defScope (topS 81), [], []⟩,
  ⟨("_law_family", none), "_law_family", "_law_family", defArgs (topS 82), defBody (topS 82), defScope (topS 82), [], []⟩,
  ⟨("_law_any_order", none), "_law_any_order", "_law_any_order", defArgs (topS 83), defBody (topS 83), defScope (topS 83), [], []⟩]
def fnC : List He.DefD := [
  ⟨("_law_told", none), "_law_told", "_law_told", defArgs (topS 84), defBody (topS 84), defScope (topS 84), [], []⟩,
  ⟨("_law_is_short", none), "_law_is_short", "_law_is_short", defArgs (topS 85), defBody (topS 85), defScope (topS 85), [], []⟩,
  ⟨("_law_are_pairs", none), "_law_are_pairs", "_law_are_pairs", defArgs (topS 86), defBody (topS 86), defScope (topS 86), [], []⟩,
  ⟨("_law_table_of", none), "_law_table_of", "_law_table_of", defArgs (topS 93), defBody (topS 93), defScope (topS 93), [], []⟩,
  ⟨("_law_members", none), "_law_members", "_law_members", defArgs (topS 94), defBody (topS 94), defScope (topS 94), [], []⟩,
  ⟨("_law_bars_four", none), "_law_bars_four", "_law_bars_four", defArgs (topS 96), defBody (topS 96), defScope (topS 96), [], []⟩,
  ⟨("_law_bars", none), "_law_bars", "_law_bars", defArgs (topS 97), defBody (topS 97), defScope (topS 97), [], []⟩,
  ⟨("_law_has_bar", none), "_law_has_bar", "_law_has_bar", defArgs (topS 98), defBody (topS 98), defScope (topS 98), [], []⟩,
  ⟨("_law_right", none), "_law_right", "_law_right", defArgs (topS 99), defBody (topS 99), defScope (topS 99), [], []⟩,
  ⟨("_law_arcs_of", none), "_law_arcs_of", "_law_arcs_of", defArgs (topS 100), defBody (topS 100), defScope (topS 100), [], []⟩,
  ⟨("law", none), "law", "law", defArgs (topS 101), defBody (topS 101), defScope (topS 101), [], []⟩,
  ⟨("Order", some "__init__"), "__init__", "Order.__init__", defArgs (inClass (topS 14) 0), defBody (inClass (topS 14) 0), defScope (inClass (topS 14) 0), [], []⟩,
  ⟨("Order", some "above"), "above", "Order.above", defArgs (inClass (topS 14) 9), defBody (inClass (topS 14) 9), defScope (inClass (topS 14) 9), [], []⟩,
  ⟨("Order", some "upper_covers"), "upper_covers", "Order.upper_covers", defArgs (inClass (topS 14) 12), defBody (inClass (topS 14) 12), defScope (inClass (topS 14) 12), [], []⟩]
def fn : List He.DefD := fnA ++ (fnB ++ fnC)
def faA : List He.Fa := [.glo "arc_fault", .glo "draw_arcs", .glo "elements_of", .glo "mask_of", .glo "found_ring", .glo "closed_masks", .glo "draw", .glo "_law_cell", .glo "_law_stream", .glo "_law_draw", .glo "_law_mixed", .glo "_law_closed", .glo "_law_pairs", .glo "_law_covers", .glo "_law_upper", .glo "_law_is_integer", .glo "_law_are_integers", .glo "_law_any_pairs", .glo "_law_any_spans", .glo "_law_by_spans", .glo "_law_by_rows", .glo "_law_any_tree", .glo "_law_tree_members", .glo "_law_by_tree", .glo "_law_any_arcs", .glo "_law_by_arcs", .glo "_law_any_parents", .glo "_law_by_parents", .glo "_law_by_ranks", .glo "_law_crown"]
def faB : List He.Fa := [.glo "_law_family", .glo "_law_any_order", .glo "_law_told", .glo "_law_is_short", .glo "_law_are_pairs", .glo "_law_table_of", .glo "_law_members", .glo "_law_bars_four", .glo "_law_bars", .glo "_law_has_bar", .glo "_law_right", .glo "_law_arcs_of", .glo "law", .free "len", .free "int", .free "bool", .free "list", .free "range", .free "tuple", .free "any", .free "all", .free "max", .free "repr", .free "isinstance", .free "enumerate"]
def faC : List He.Fa := [.int "MOST" 40, .glo "Order", .cls "Order", .mkr "Order", .meth "Order" "above", .meth "Order" "upper_covers", .noat "Order" "_size", .noat "Order" "_up", .noat "Order" "_down", .noat "Order" "_pairs"]
def fa : List He.Fa := faA ++ (faB ++ faC)
/-! ### the property Order.size: its getter -/
def pAt (K : PySem.W.Frag) : Addr := He.ma K (He.ga K "Order") "size"
def gAt (K : PySem.W.Frag) : Addr := match PySem.W.recIn K (pAt K) "property" with
  | some (.ref g :: _) => g
  | _ => 0
def getW (K : PySem.W.Frag) : He.FnW := match K.lookup (gAt K) with
  | some ⟨_, _, .func fd, _⟩ => some (fd.name, fd.qualname, fd.params, fd.body, fd.scope, fd.globals, fd.closure, fd.builtins)
  | _ => none
def getV : He.FnW := some ("size", "Order.size", defArgs (inClass (topS 14) 1), .stmts (defBody (inClass (topS 14) 1)), defScope (inClass (topS 14) 1), mainGlobals, [], builtinsNs)
def propB (K : PySem.W.Frag) : Bool := He.eqO (PySem.W.findIn K (.ref (He.ga K "Order")) "size") (some (some (.ref (pAt K)))) && (He.eqO (PySem.W.specialIn K (.ref (pAt K)) "__get__") (some (some (.builtin "property.__get__"))) &&
  (decide (PySem.W.takesIn K (.ref (pAt K)) = some true) && ((match PySem.W.recIn K (pAt K) "property" with
    | some (.ref g :: _) => decide (g = gAt K)
    | _ => false) && (match K.lookup (gAt K) with
    | some ⟨_, _, .func fd, _⟩ => PySem.W.codeIn K fd.code "Order.size" && (He.dflB K fd.defaults [] && He.kwdB K fd.kwdefaults [])
    | _ => false))))
/-! ### the written part: the module's names, the code of its defs, the classes' own names -/
def dictVals (o : Option Obj) : List Addr := match o with
  | some ⟨_, _, .dict es _, _⟩ => es.toList.flatMap fun e => He.refV e.val
  | _ => []
def nextOf (o : Option Obj) : List Addr := match o with
  | some ⟨_, _, .func fd, _⟩ => He.refV fd.code
  | some ⟨_, _, .cls cd, _⟩ => [cd.ns]
  | _ => []
def nextP (o : Option Obj) : List Addr := match o with
  | some ⟨_, _, .func fd, _⟩ => He.refV fd.code
  | some ⟨_, _, .fields vs, _⟩ => vs.toList.flatMap He.refV
  | _ => []
def asL (g : Addr → Option Obj) : List Addr :=
  let l1 := dictVals (g mainGlobals)
  let l2 := l1.flatMap fun a => nextOf (g a)
  let l3 := l2.flatMap fun a => dictVals (g a)
  let l4 := l3.flatMap fun a => nextP (g a)
  let l5 := l4.flatMap fun a => nextOf (g a)
  mainGlobals :: (l1 ++ (l2 ++ (l3 ++ (l4 ++ l5))))
abbrev AlP : Type := He.AlD × Bool × He.FnW
def obsP (g : Addr → Option Obj) : AlP := (He.obsD fa fn (He.frG g (asL g)), propB (He.frG g (asL g)), getW (He.frG g (asL g)))
def valP : AlP := (He.valD fn, true, getV)
structure SaysP (K : PySem.W.Frag) : Prop where
  d : He.SaysD fa fn K
  p : propB K = true
  g : getW K = getV
def hk : PySem.W.Hook where
  α := AlP
  obs := fun s => obsP s.heap.get?
  val := fun _ => valP
  says := fun _ h => ∃ K : PySem.W.Frag, K.In h ∧ SaysP K
  of := fun _ _ e => ⟨_, He.frG_in, ⟨congrArg (fun z : AlP => z.1) e, congrArg (fun z : AlP => z.2.1) e, congrArg (fun z : AlP => z.2.2) e⟩⟩
  keeps := fun _ _ _ ⟨K, hK, c⟩ k => ⟨K, PySem.W.Frag.In.keeps hK k, c⟩
abbrev R : PySem.W.OpenRow := PySem.W.OpenLaw.row PySem.Challenge.rw_drawnorders_k11_whole_nets
def ob (s : PySem.W.SharedT) : AlP := obsP (HandSHeadRun.getT s)
theorem ob_eq (s : PySem.W.SharedT) : ob s = hk.obs s.abs := by
  have e : HandSHeadRun.getT s = s.abs.heap.get? := funext (HandSHeadRun.getT_eq s)
  show obsP (HandSHeadRun.getT s) = obsP s.abs.heap.get?
  rw [e]
theorem run (w : World) : HandSHeadRun.RunEq R (PySem.W.view R.prog [101]) hk ob 6000 loose w := by
  intro os
  kernel_rfl
end Hd
end K11
set_option maxHeartbeats 4000000
/-! B2: tools for loops and comprehensions. -/
namespace K11
open PySem PySem.Spec PyProof.Rows L2

theorem ixn {n j : Nat} (h : j < n) : ixN n (j : Int) = some j := by
  unfold ixN
  rw [if_pos (by omega), if_pos (by omega)]
  simp
theorem sqi {n j : Nat} (h : j < n) : seqIndex? (j : Int) n = some j := (ixN_seq (ixn h)).1
/-- all but l is as it was -/
def But (l : Addr) (H H' : Hp) : Prop := ∀ b, b ≠ l → H' b = H b
theorem mu {H : Hp} {l : Addr} {o : HO} {Q : Hp → Prop} (h : ∀ H', But l H H' → H' l = some o → Q H') : Q (upd H l o) := h _ (fun b n => upd_ne n) upd_same
theorem nu_same {H H1 : Hp} {p : Addr} {o : HO} (e : upd H p o = H1) (h : H p = none) : Same H H1 := e ▸ same_up h
theorem nu_at {H H1 : Hp} {p : Addr} {o : HO} (e : upd H p o = H1) : H1 p = some o := e ▸ upd_same
theorem nu_but {H H1 : Hp} {p : Addr} {o : HO} (e : upd H p o = H1) : But p H H1 := e ▸ fun b n => upd_ne n
theorem But.get {l b : Addr} {H H' : Hp} {o : HO} (h : But l H H') (n : b ≠ l) (e : H b = some o) : H' b = some o := by rw [h b n]; exact e
theorem Same.but {l : Addr} {H0 H H' : Hp} (a : Same H0 H) (b : But l H H') (h : H0 l = none) : Same H0 H' := fun c o e => b.get (ne_of_none e h) (a c o e)
theorem Stm.but {s l : Addr} {H0 H H' : Hp} (a : Stm s H0 H) (b : But l H H') (h : H0 l = none) (n : l ≠ s) : Stm s H0 H' := by
  refine ⟨fun c o nc e => b.get (ne_of_none e h) (a.keep c o nc e), ?_⟩
  obtain ⟨x, c, m, hs⟩ := a.st
  exact ⟨x, c, m, b.get n.symm hs⟩
theorem But.seq {K : PySem.W.Frag} {l a : Addr} {H H' : Hp} {xs : List V} (b : But l H H') (h : SqL K H a xs) (n : a ≠ l) : SqL K H' a xs := by
  rcases h with (h | ⟨o, h⟩) | h
  · exact .inl (.inl (b.get n h))
  · exact .inl (.inr ⟨o, b.get n h⟩)
  · exact .inr h

/-! ### data without lists within -/
mutual
def noL : PyData → Bool
  | .none => true
  | .bool _ => true
  | .int _ => true
  | .str _ => true
  | .list _ => false
  | .tuple ds => noLA ds
  | .dict _ => false
def noLA : List PyData → Bool
  | [] => true
  | d :: ds => noL d && noLA ds
end
theorem noLA_all {ds : List PyData} (h : ∀ d ∈ ds, noL d = true) : noLA ds = true := by
  induction ds with
  | nil => rfl
  | cons d ds ih => rw [noLA, Bool.and_eq_true]; exact ⟨h d List.mem_cons_self, ih fun e he => h e (List.mem_cons_of_mem _ he)⟩
theorem noLA_mem {ds : List PyData} (h : noLA ds = true) : ∀ d ∈ ds, noL d = true := by
  induction ds with
  | nil => intro d hd; cases hd
  | cons d ds ih =>
    rw [noLA, Bool.and_eq_true] at h
    intro e he
    rcases List.mem_cons.mp he with rfl | he
    · exact h.1
    · exact ih h.2 e he
section
variable {K : PySem.W.Frag} {H H' : Hp} {l : Addr} {us : List V}
theorem But.sqt {a : Addr} {xs : List V} (b : But l H H') (hl : H l = some (.lst us)) (h : SqT K H a xs) : SqT K H' a xs := by
  rcases h with (h | ⟨o, h⟩) | h
  · exact .inl (.inl (b.get (fun z => by rw [z, hl] at h; cases h) h))
  · exact .inl (.inr ⟨o, b.get (fun z => by rw [z, hl] at h; cases h) h⟩)
  · exact .inr h
mutual
theorem But.dp (b : But l H H') (hl : H l = some (.lst us)) : ∀ (d : PyData) (v : V), noL d = true → Dp K H v d → Dp K H' v d
  | .none, _, _, h => by cases h; exact .non
  | .bool c, _, _, h => by cases h; exact .bl c
  | .int i, _, _, h => by cases h; exact .int i
  | .str x, _, _, h => by cases h; exact .str x
  | .list ds, _, n, h => by rw [noL] at n; cases n
  | .tuple ds, _, n, h => by
    rw [noL] at n
    cases h with
    | tup hs ha => exact .tup (b.sqt hl hs) (But.dpAll b hl ds _ n ha)
  | .dict _, _, _, h => by cases h
theorem But.dpAll (b : But l H H') (hl : H l = some (.lst us)) : ∀ (ds : List PyData) (vs : List V), noLA ds = true → DpAll K H vs ds → DpAll K H' vs ds
  | [], _, _, h => by cases h; exact .nil
  | d :: ds, _, n, h => by
    rw [noLA, Bool.and_eq_true] at n
    cases h with
    | cons h1 h2 => exact .cons (But.dp b hl d _ n.1 h1) (But.dpAll b hl ds _ n.2 h2)
end
theorem but_up {o : HO} : But l H (upd H l o) := fun b n => upd_ne n
/-- data that may stand in a list that grows at D: no lists within, or a list of one's own, met nowhere before -/
def Ok (H : Hp) (y : V) (d : PyData) : Prop := noL d = true ∨ ∃ a ds, y = .ref a ∧ H a = none ∧ d = .list ds ∧ noLA ds = true
theorem Ok.but {G : Hp} {y : V} {d : PyData} (k : Ok G y d) (gs : ∃ u, G l = some u) (b : But l H H') (hl : H l = some (.lst us)) (h : Dp K H y d) : Dp K H' y d := by
  rcases k with k | ⟨a, ds, rfl, ha, rfl, hn⟩
  · exact b.dp hl d y k h
  · have n : a ≠ l := fun z => by
      obtain ⟨u, gs⟩ := gs
      rw [z, gs] at ha
      cases ha
    cases h with
    | lst hs hp => exact .lst (b.seq hs n) (b.dpAll hl _ _ hn hp)
end
/-- items that do not lean on the list at l -/
def Off (l : Addr) (v : V) (d : PyData) : Prop := noL d = true ∨ ∃ a ds, v = .ref a ∧ a ≠ l ∧ d = .list ds ∧ noLA ds = true
theorem Off.but {K : PySem.W.Frag} {H H' : Hp} {l : Addr} {us : List V} {y : V} {d : PyData} (k : Off l y d) (b : But l H H') (hl : H l = some (.lst us)) (h : Dp K H y d) : Dp K H' y d := by
  rcases k with k | ⟨a, ds, rfl, n, rfl, hn⟩
  · exact b.dp hl d y k h
  · cases h with
    | lst hs hp => exact .lst (b.seq hs n) (b.dpAll hl _ _ hn hp)
theorem Ok.off {G : Hp} {l : Addr} {y : V} {d : PyData} {u : HO} (k : Ok G y d) (gs : G l = some u) : Off l y d := by
  rcases k with k | ⟨a, ds, rfl, ha, rfl, hn⟩
  · exact .inl k
  · exact .inr ⟨a, ds, rfl, (fun z => by rw [z, gs] at ha; cases ha), rfl, hn⟩
/-- a list at l that grows, item by item -/
structure Grow (K : PySem.W.Frag) (H : Hp) (l : Addr) (acc : List V) (ds : List PyData) : Prop where
  at_ : H l = some (.lst acc)
  dat : DpAll K H acc ds
  off : ∀ (i : Nat) v d, acc[i]? = some v → ds[i]? = some d → Off l v d
section
variable {K : PySem.W.Frag} {H H' : Hp} {l : Addr} {acc : List V} {ds : List PyData}
theorem Grow.la (g : Grow K H l acc ds) : LA K H l ds := ⟨acc, g.at_, g.dat⟩
theorem Grow.len (g : Grow K H l acc ds) : acc.length = ds.length := dpa_len g.dat
theorem Grow.nil (h : H l = some (.lst [])) : Grow K H l [] [] := ⟨h, .nil, fun i v d e => by simp at e⟩
theorem Grow.same (g : Grow K H l acc ds) (e : Same H H') : Grow K H' l acc ds := ⟨e _ _ g.at_, Dp.sameAll e _ _ g.dat, g.off⟩
theorem Grow.app (g : Grow K H l acc ds) {v : V} {d : PyData} (hv : Dp K H v d) (o : Off l v d) (b : But l H H') (h : H' l = some (.lst (acc ++ [v]))) : Grow K H' l (acc ++ [v]) (ds ++ [d]) := by
  have hl := g.len
  refine ⟨h, dpa_app (dpa_of hl fun i x e h1 h2 => ?_) (dpa_one (o.but b g.at_ hv)), fun i x e h1 h2 => ?_⟩
  · obtain ⟨e', h3, h4⟩ := dpa_get g.dat h1
    rw [h2] at h3
    cases h3
    exact (g.off i x e h1 h2).but b g.at_ h4
  · by_cases hi : i < acc.length
    · rw [List.getElem?_append_left hi] at h1
      rw [List.getElem?_append_left (by omega)] at h2
      exact g.off i x e h1 h2
    · rw [List.getElem?_append_right (by omega)] at h1
      rw [List.getElem?_append_right (by omega)] at h2
      rw [hl] at h1
      cases hk : i - ds.length with
      | zero =>
        rw [hk] at h1 h2
        simp at h1 h2
        subst h1 h2
        exact o
      | succ k => rw [hk] at h1; simp at h1
end

/-! ### rules whose reading speaks of K by name (within a comprehension's block) -/
section
variable {X : Cx} {K : PySem.W.Frag}
theorem ixK (e : X.K = K) : IxR X (rIx K) := e ▸ ix_seq
theorem lenK (e : X.K = K) : CallR X (.builtin "len") (fun xs H Q => ∃ p ys, xs = [.ref p] ∧ (SqL K H p ys ∨ SqT K H p ys) ∧ Q (.int ys.length) H) := e ▸ call_len_seq
theorem tupK (e : X.K = K) : CallR X (.type "tuple") (fun xs H Q => ∃ p ys, xs = [.ref p] ∧ ((SqL K H p ys ∧ ∀ l, H l = none → Q (.ref l) (upd H l (.tup ys))) ∨ (SqT K H p ys ∧ Q (.ref p) H))) := e ▸ call_tuple_of
theorem lstK (e : X.K = K) : CallR X (.type "list") (fun xs H Q => ∃ p ys, xs = [.ref p] ∧ (SqL K H p ys ∨ SqT K H p ys) ∧ ∀ l, H l = none → Q (.ref l) (upd H l (.lst ys))) := e ▸ call_list_of
theorem inK (e : X.K = K) : OpR X (compareOp .In) (rIn K false) := e ▸ op_in_seq
theorem ninK (e : X.K = K) : OpR X (compareOp .NotIn) (rIn K true) := e ▸ op_notIn_seq
theorem idxK (e : X.K = K) : MtR X "list.index" (rIndex K) := e ▸ mt_index
theorem slTK (e : X.K = K) : SlR X (rSlA K) := e ▸ sl_tupA
theorem slLK (e : X.K = K) : SlR X (rSlL K) := e ▸ sl_list
theorem anyK (e : X.K = K) (hc : X.calm = true) : CallR X (.builtin "any") (rAny K) := e ▸ cr_any hc
theorem allK (e : X.K = K) (hc : X.calm = true) : CallR X (.builtin "all") (rAll K) := e ▸ cr_all hc
theorem maxK (e : X.K = K) (hc : X.calm = true) : CallR X (.builtin "max") (rMax K) := e ▸ cr_max hc
theorem isiK (e : X.K = K) : CallR X (.builtin "isinstance") (rIsi K) := e ▸ call_isi
end
/-! ### loops -/
section
variable {K : PySem.W.Frag}
theorem for_r1 {n : Nat} {m : Int} (e : m = (n : Int)) (hn : n ≤ 1000000) {g : TG} {tb : TS} {D : Ends} {σ : L2.St} {H : Hp} (Pv : Nat → L2.St → Hp → Prop) (h0 : Pv 0 σ H)
    (hs : ∀ (i : Nat) σ H, i < n → Pv i σ H → g (.int (i : Int)) σ H fun σ2 H2 => tb { D with nx := Pv (i + 1), ct := Pv (i + 1), bk := D.nx } σ2 H2) (hd : ∀ σ H, Pv n σ H → D.nx σ H) :
    ∃ j : Int, [V.int m] = [.int j] ∧ -(2 ^ 62) ≤ j ∧ j < 2 ^ 62 ∧ ∃ W : Nat → Nat → L2.St → Hp → Prop, (∃ m, W 0 m σ H) ∧ ∀ i m σ H, W i m σ H →
      ((Itr 0 j.toNat).stop i H ∧ D.nx σ H) ∨ ((Itr 0 j.toNat).go i H ∧ ∃ N : L2.St → Hp → Prop, (∀ σ' H', N σ' H' → ∃ m', m' < m ∧ W (i + 1) m' σ' H') ∧ ∀ x H', (Itr 0 j.toNat).yld i H x H' → g x σ H' fun σ2 H2 => tb { D with nx := N, ct := N, bk := D.nx } σ2 H2) := by
  subst e
  refine ⟨_, rfl, by omega, by omega, ?_⟩
  rw [Int.toNat_natCast]
  exact for_range (lo := 0) (n := n) Pv h0 (fun i σ H hi p => by rw [Int.zero_add]; exact hs i σ H hi p) hd
theorem for_r2 {a b : Nat} {x y : Int} (ea : x = (a : Int)) (eb : y = (b : Int)) (hab : a ≤ b) (hn : b ≤ 1000000) {g : TG} {tb : TS} {D : Ends} {σ : L2.St} {H : Hp} (Pv : Nat → L2.St → Hp → Prop) (h0 : Pv a σ H)
    (hs : ∀ (i : Nat) σ H, a ≤ i → i < b → Pv i σ H → g (.int (i : Int)) σ H fun σ2 H2 => tb { D with nx := Pv (i + 1), ct := Pv (i + 1), bk := D.nx } σ2 H2) (hd : ∀ σ H, Pv b σ H → D.nx σ H) :
    ∃ i j : Int, [V.int x, V.int y] = [.int i, .int j] ∧ (-(2 ^ 62) ≤ i ∧ i < 2 ^ 62 ∧ -(2 ^ 62) ≤ j ∧ j < 2 ^ 62) ∧ ∃ W : Nat → Nat → L2.St → Hp → Prop, (∃ m, W 0 m σ H) ∧ ∀ k m σ H, W k m σ H →
      ((Itr i (j - i).toNat).stop k H ∧ D.nx σ H) ∨ ((Itr i (j - i).toNat).go k H ∧ ∃ N : L2.St → Hp → Prop, (∀ σ' H', N σ' H' → ∃ m', m' < m ∧ W (k + 1) m' σ' H') ∧ ∀ x H', (Itr i (j - i).toNat).yld k H x H' → g x σ H' fun σ2 H2 => tb { D with nx := N, ct := N, bk := D.nx } σ2 H2) := by
  subst ea eb
  refine ⟨_, _, rfl, ⟨by omega, by omega, by omega, by omega⟩, ?_⟩
  have en : ((b : Int) - (a : Int)).toNat = b - a := by omega
  rw [en]
  refine for_range (lo := (a : Int)) (n := b - a) (fun i => Pv (a + i)) h0 (fun i σ H hi p => ?_) (fun σ H p => hd σ H (by rw [show a + (b - a) = b by omega] at p; exact p))
  rw [← Int.natCast_add]
  exact hs (a + i) σ H (by omega) (by omega) p
/-- a comprehension over range(m) whose tests and elements leave all as it was -/
theorem lc_r1 {n : Nat} {m : Int} (e : m = (n : Int)) (hn : n ≤ 100000) {j : Nat} {tt : TT} {te : TE} {vs : List Nat} {σ : L2.St} {H1 : Hp} {Q : Addr → Hp → Prop} (p : Nat → Bool) (f : Nat → PyData)
    (hw : ∀ i : Nat, wipe ((wipe σ vs).set j (some (.int (i : Int)))) vs = wipe σ vs)
    (ht : ∀ (i : Nat) H (R : Bool → Hp → Prop), i < n → Same H1 H → (∀ H', Same H H' → R (p i) H') → tt ((wipe σ vs).set j (some (.int (i : Int)))) H R)
    (he : ∀ (i : Nat) H (R : VK), i < n → p i = true → Same H1 H → (∀ y H', Same H H' → Dp K H' y (f i) → Ok H y (f i) → R y H') → te ((wipe σ vs).set j (some (.int (i : Int)))) H R)
    (hd : ∀ D H', H1 D = none → Same H1 H' → LA K H' D (((List.range n).filter p).map f) → Q D H') :
    ∃ jj : Int, [V.int m] = [.int jj] ∧ -(2 ^ 62) ≤ jj ∧ jj < 2 ^ 62 ∧ ∀ D, H1 D = none → ∃ W : Nat → Nat → Hp → Prop, (∃ m, W 0 m (upd H1 D (.lst []))) ∧ ∀ i m H, W i m H →
      ((Itr 0 jj.toNat).stop i H ∧ Q D H) ∨ ((Itr 0 jj.toNat).go i H ∧ ∃ Nx : Hp → Prop, (∀ H', Nx H' → ∃ m', m' < m ∧ W (i + 1) m' H') ∧ ∀ x H', (Itr 0 jj.toNat).yld i H x H' → gName j x (wipe σ vs) H' fun σ2 H2 => wipe σ2 vs = wipe σ vs ∧ tt σ2 H2 fun b H3 =>
        if b = true then te σ2 H3 fun y H4 => ∃ acc, H4 D = some (.lst acc) ∧ acc.length < sizeLine ∧ Nx (upd H4 D (.lst (acc ++ [y]))) else Nx H3) := by
  subst e
  refine ⟨_, rfl, by omega, by omega, fun D hD => ?_⟩
  rw [Int.toNat_natCast]
  refine lc_range (lo := 0) (n := n) (fun i H => Same H1 H ∧ ∃ acc, acc.length ≤ i ∧ Grow K H D acc (((List.range i).filter p).map f)) ⟨same_up hD, [], Nat.le_refl _, .nil upd_same⟩ (fun i H hi ⟨s1, acc, hl, g⟩ => ?_) (fun H ⟨s1, acc, hl, g⟩ => hd D H hD s1 g.la)
  rw [Int.zero_add]
  refine ⟨hw i, ht i H _ hi s1 fun H2 s2 => ?_⟩
  have er : List.range (i + 1) = List.range i ++ [i] := List.range_succ
  cases hp2 : p i with
  | false =>
    rw [if_neg Bool.false_ne_true]
    refine ⟨s1.trans s2, acc, by omega, ?_⟩
    rw [er, List.filter_append, List.map_append]
    simp only [List.filter_cons, hp2, List.filter_nil, Bool.false_eq_true, if_false, List.map_nil, List.append_nil]
    exact g.same s2
  | true =>
    rw [if_pos rfl]
    refine he i H2 _ hi hp2 (s1.trans s2) fun y H3 s3 hy ok => ?_
    have g3 := (g.same s2).same s3
    refine ⟨acc, g3.at_, szl (by omega), ?_⟩
    refine ⟨K11.Same.mut (s1.trans (s2.trans s3)) hD, acc ++ [y], by rw [List.length_append]; simp; omega, ?_⟩
    rw [er, List.filter_append, List.map_append]
    simp only [List.filter_cons, hp2, List.filter_nil, if_true, List.map_cons, List.map_nil]
    exact g3.app hy (ok.off (g.same s2).at_) but_up upd_same
/-- the same over a list of data -/
theorem lc_ld {a : Addr} {xs : List V} {ds : List PyData} (hn : xs.length ≤ 100000) {g : TG} {tt : TT} {te : TE} {vs : List Nat} {σ : L2.St} {H1 : Hp} {Q : Addr → Hp → Prop} (hx : SqL K H1 a xs) (hp : DpAll K H1 xs ds) (p : PyData → Bool) (f : PyData → PyData) (sg : V → L2.St)
    (hg : ∀ x H R, R (sg x) H → g x (wipe σ vs) H R) (hw : ∀ x, wipe (sg x) vs = wipe σ vs)
    (ht : ∀ x d H (R : Bool → Hp → Prop), d ∈ ds → Dp K H1 x d → Same H1 H → (∀ H', Same H H' → R (p d) H') → tt (sg x) H R)
    (he : ∀ x d H (R : VK), d ∈ ds → Dp K H1 x d → p d = true → Same H1 H → (∀ y H', Same H H' → Dp K H' y (f d) → Ok H y (f d) → R y H') → te (sg x) H R)
    (hd : ∀ D H', H1 D = none → Same H1 H' → LA K H' D ((ds.filter p).map f) → Q D H') :
    ∃ aa, V.ref a = .ref aa ∧ (∃ xs, SqL K H1 aa xs) ∧ ∀ D, H1 D = none → ∃ W : Nat → Nat → Hp → Prop, (∃ m, W 0 m (upd H1 D (.lst []))) ∧ ∀ i m H, W i m H →
      ((Itl K aa).stop i H ∧ Q D H) ∨ ((Itl K aa).go i H ∧ ∃ Nx : Hp → Prop, (∀ H', Nx H' → ∃ m', m' < m ∧ W (i + 1) m' H') ∧ ∀ x H', (Itl K aa).yld i H x H' → g x (wipe σ vs) H' fun σ2 H2 => wipe σ2 vs = wipe σ vs ∧ tt σ2 H2 fun b H3 =>
        if b = true then te σ2 H3 fun y H4 => ∃ acc, H4 D = some (.lst acc) ∧ acc.length < sizeLine ∧ Nx (upd H4 D (.lst (acc ++ [y]))) else Nx H3) := by
  refine ⟨a, rfl, ⟨xs, hx⟩, fun D hD => ?_⟩
  have hlen := dpa_len hp
  refine lc_list (K := K) (a := a) (xs := xs) (fun i H => Same H1 H ∧ ∃ acc, acc.length ≤ i ∧ Grow K H D acc (((ds.take i).filter p).map f)) ⟨same_up hD, [], Nat.le_refl _, .nil upd_same⟩ (fun i H hi ⟨s1, _⟩ => s1.seq hx) (fun i x H hi ⟨s1, acc, hl, g'⟩ => ?_) (fun H ⟨s1, acc, hl, g'⟩ => hd D H hD s1 (by rw [hlen, List.take_length] at g'; exact g'.la))
  obtain ⟨d, hd', hxd⟩ := dpa_get hp hi
  have hil : i < xs.length := (List.getElem?_eq_some_iff.mp hi).1
  have hm : d ∈ ds := List.mem_of_getElem? hd'
  refine hg x H _ ⟨hw x, ht x d H _ hm hxd s1 fun H2 s2 => ?_⟩
  have er : ds.take (i + 1) = ds.take i ++ [d] := by rw [List.take_add_one, hd']; rfl
  cases hp2 : p d with
  | false =>
    rw [if_neg Bool.false_ne_true]
    refine ⟨s1.trans s2, acc, by omega, ?_⟩
    rw [er, List.filter_append, List.map_append]
    simp only [List.filter_cons, hp2, List.filter_nil, Bool.false_eq_true, if_false, List.map_nil, List.append_nil]
    exact g'.same s2
  | true =>
    rw [if_pos rfl]
    refine he x d H2 _ hm hxd hp2 (s1.trans s2) fun y H3 s3 hy ok => ?_
    have g3 := (g'.same s2).same s3
    refine ⟨acc, g3.at_, szl (by omega), ?_⟩
    refine ⟨K11.Same.mut (s1.trans (s2.trans s3)) hD, acc ++ [y], by rw [List.length_append]; simp; omega, ?_⟩
    rw [er, List.filter_append, List.map_append]
    simp only [List.filter_cons, hp2, List.filter_nil, if_true, List.map_cons, List.map_nil]
    exact g3.app hy (ok.off (g'.same s2).at_) but_up upd_same
end
end K11
/- a new object: the heap behind it, what it keeps, what stands there -/
local macro_rules | `(tactic| ktr_call ($H:ident $e:ident $h:ident) $n:term) => `(tactic| (generalize hE : L2.upd _ _ _ = $H; have $e:ident := K11.nu_same hE $n; have $h:ident := K11.nu_at hE; clear hE))
/- an object changed -/
local macro_rules | `(tactic| tbr_iter ($H:ident $e:ident $h:ident)) => `(tactic| (generalize hE : L2.upd _ _ _ = $H; have $e:ident := K11.nu_but hE; have $h:ident := K11.nu_at hE; clear hE))
set_option maxHeartbeats 4000000
/-! B3: mixed. -/
namespace K11
open PySem PySem.Spec PyProof.Rows L2
theorem erase_perm {α : Type} : ∀ {l : List α} {n : Nat} (h : n < l.length), (l[n] :: l.eraseIdx n).Perm l
  | x :: l, 0, _ => .refl _
  | x :: l, n + 1, h => by
    have ih := erase_perm (l := l) (n := n) (by simpa using h)
    rw [List.eraseIdx_cons_succ, List.getElem_cons_succ]
    exact .trans (.swap _ _ _) (ih.cons x)
section
variable {P : Program} {w : World} {K : PySem.W.Frag} {mg : Str → Option Value} {base : Heap}
abbrev s_law_mixed : Stmt := topS 60
abbrev N_law_mixed : List Str := ["_law_stream_here", "_law_items", "_law_rest", "_law_found", "_law_k"]
theorem sc_law_mixed : FnScope N_law_mixed ["_law_stream_here", "_law_items"] (defScope s_law_mixed) := ⟨rfl, rfl, rfl, by decide +kernel, rfl, by decide +kernel, by decide +kernel⟩
def spMixed (K : PySem.W.Frag) : Sp := fun vs H Q _ => ∃ (s a : Addr) (xs : List V), vs = [.ref s, .ref a] ∧ Strm H s ∧ SqL K H a xs ∧ a ≠ s ∧ xs.length ≤ 10000 ∧ ∀ r ys H', H r = none → Stm s H H' → H' r = some (.lst ys) → ys.Perm xs → Q (.ref r) H'
theorem d_mixed (T : Blt mg) (t : TD K mg "_law_mixed" s_law_mixed) (d__law_draw : Df P w K mg base 1 "_law_draw" spDraw) : Df P w K mg base 2 "_law_mixed" (spMixed K) := by
  refine df_mk t sc_law_mixed (fun _ _ _ _ _ _ us hl => match us, hl with | [_, _], _ => rfl) (fun vs H Q E h => ?_) (fun f cdv A outer s₀ H vs Q E hr h => ?_)
  · obtain ⟨s, a, xs, rfl, _⟩ := h; rfl
  obtain ⟨s, a, xs, rfl, hs, hx, nas, hlen, q⟩ := h
  refine ⟨_, pss_cons (ps_set (i := 2) sc_law_mixed.nd rfl (.inl rfl) (pe_callTy call_list_of rfl T.b_list (by decide +kernel) (pa_cons (pv 1) pa_nil)))
      (pss_cons (ps_set (i := 3) sc_law_mixed.nd rfl (.inl rfl) (pe_lst pa_nil))
      (pss_cons (ps_for PassesOwn.never rfl (pi_range1 rfl T.b_range (pa_cons (pe_callB call_len_seq rfl T.b_len (by decide +kernel) (pa_cons (pv 1) pa_nil)) pa_nil)) (pg_name (i := 4) sc_law_mixed.nd rfl (.inl rfl))
      (pss_one (ps_expr (pe_bm PySem.F.plainAttrs_list PySem.F.slot_list_append PySem.F.type_list_append mt_append (pv 3) (pa_cons (pe_bm PySem.F.plainAttrs_list PySem.F.slot_list_pop PySem.F.type_list_pop mt_popAt (pv 2) (pa_cons (pe_df d__law_draw hr (by decide) rfl (pa_cons (pv 0) (pa_cons (pe_callB call_len_seq rfl T.b_len (by decide +kernel) (pa_cons (pv 2) pa_nil)) pa_nil))) pa_nil)) pa_nil)))))
      (pss_one (ps_ret (pv 3))))), ?_⟩
  -- rest = list(items); found = []
  refine ⟨_, rfl, a, xs, rfl, .inl hx, fun r nr => ?_⟩
  ktr_call (H1 e1 hr1) nr
  refine ⟨Nat.zero_le _, fun g ng => ?_⟩
  ktr_call (H2 e2 hg2) ng
  have hs2 : Strm H2 s := (hs.same e1).same e2
  have nrs : r ≠ s := hs.ne nr
  have ngs : g ≠ s := (hs.same e1).ne ng
  have nrg : r ≠ g := ne_of_none hr1 ng
  -- for k in range(len(items))
  refine ⟨_, rfl, a, xs, rfl, .inl (e2.seq (e1.seq hx)), for_r1 (n := xs.length) rfl (by omega) (fun i σ H3 => ∃ v rs fs, σ = [some (.ref s), some (.ref a), some (.ref r), some (.ref g), v] ∧ Stm s H H3 ∧ H3 r = some (.lst rs) ∧ H3 g = some (.lst fs) ∧ rs.length + i = xs.length ∧ fs.length = i ∧ (fs ++ rs).Perm xs) ⟨none, xs, [], rfl, Stm.of hs (e1.trans e2), e2 _ _ hr1, hg2, rfl, rfl, .refl _⟩ (fun i σ H3 hi hP => ?_) (fun σ H3 hP => ?_)⟩
  · obtain ⟨v, rs, fs, rfl, s3, h3r, h3g, l1, l2, pm⟩ := hP
    refine ⟨_, rfl, .inl ⟨rfl, _, SqL.of h3g⟩, _, rfl, .inl ⟨rfl, _, SqL.of h3r⟩, _, rfl, _, rfl, r, rs, rfl, .inl (SqL.of h3r), s, rs.length, rfl, s3.st, by omega, by omega, fun d H4 hd s4 => ?_⟩
    have h4r := s4.keep _ _ nrs h3r
    have h4g := s4.keep _ _ ngs h3g
    refine ⟨r, rs, d, d, rs[d], rfl, rfl, h4r, by omega, by omega, sqi hd, by simp [hd], ?_⟩
    tbr_iter (H5 b5 h5)
    refine ⟨g, fs, rs[d], rfl, rfl, b5.get nrg.symm h4g, szl (by omega), ?_⟩
    tbr_iter (H6 b6 h6)
    refine ⟨_, rs.eraseIdx d, fs ++ [rs[d]], rfl, ((s3.trans s4).but b5 nr nrs).but b6 ((e1.free ng)) ngs, b6.get nrg h5, h6, ?_, by simp [l2], ?_⟩
    · rw [List.length_eraseIdx_of_lt hd]; omega
    · refine .trans ?_ pm
      rw [List.append_assoc]
      refine .append_left _ ?_
      exact erase_perm hd
  · obtain ⟨v, rs, fs, rfl, s3, h3r, h3g, l1, l2, pm⟩ := hP
    have e0 : rs = [] := List.eq_nil_of_length_eq_zero (by omega)
    subst e0
    rw [List.append_nil] at pm
    exact ⟨_, rfl, q g fs H3 (e1.free ng) s3 h3g pm⟩
end
end K11
set_option maxHeartbeats 4000000

/-! B4: tables, pairs, covers. -/
namespace K11
open PySem PySem.Spec PyProof.Rows L2

/-! ### data of the law -/
def iD (n : Nat) : PyData := .int n
def pD (p : Nat × Nat) : PyData := .tuple [iD p.1, iD p.2]
def psL (ps : List (Nat × Nat)) : List PyData := ps.map pD
def isL (ns : List Nat) : List PyData := ns.map iD
def rowL (n : Nat) (f : Nat → Bool) : List PyData := (List.range n).map fun j => .bool (f j)
def TabD (n : Nat) (T : Nat → Nat → Bool) : PyData := .list ((List.range n).map fun i => .list (rowL n (T i)))
theorem noL_pD (p : Nat × Nat) : noL (pD p) = true := rfl
theorem noLA_psL (ps : List (Nat × Nat)) : noLA (psL ps) = true := noLA_all fun d hd => by
  obtain ⟨p, _, rfl⟩ := List.mem_map.mp hd
  rfl
theorem noLA_isL (ns : List Nat) : noLA (isL ns) = true := noLA_all fun d hd => by
  obtain ⟨p, _, rfl⟩ := List.mem_map.mp hd
  rfl
theorem noLA_rowL (n : Nat) (f : Nat → Bool) : noLA (rowL n f) = true := noLA_all fun d hd => by
  obtain ⟨p, _, rfl⟩ := List.mem_map.mp hd
  rfl
section
variable {K : PySem.W.Frag} {H : Hp}
theorem dpa_isL (ns : List Nat) : DpAll K H (ns.map fun n : Nat => V.int n) (isL ns) := by
  induction ns with
  | nil => exact .nil
  | cons n ns ih => exact .cons (.int n) ih
theorem dpa_isL_eq {vs : List V} {ns : List Nat} (h : DpAll K H vs (isL ns)) : vs = ns.map fun n : Nat => V.int n := by
  induction ns generalizing vs with
  | nil => cases h; rfl
  | cons n ns ih => cases h with
    | cons h1 h2 => rw [ih h2, dp_int h1]; rfl
theorem dpa_rowL_eq {vs : List V} {n : Nat} {f : Nat → Bool} (h : DpAll K H vs (rowL n f)) : vs = (List.range n).map fun j => V.bl (f j) := by
  have e : rowL n f = ((List.range n).map f).map PyData.bool := by unfold rowL; rw [List.map_map]; rfl
  rw [e] at h
  rw [dpa_bls_eq h, List.map_map]
  rfl
theorem dpa_rowL {n : Nat} {f : Nat → Bool} : DpAll K H ((List.range n).map fun j => V.bl (f j)) (rowL n f) := by
  have e : rowL n f = ((List.range n).map f).map PyData.bool := by unfold rowL; rw [List.map_map]; rfl
  rw [e]
  have q := dpa_bls (K := K) (H := H) ((List.range n).map f)
  rw [List.map_map] at q
  exact q
/-- a pair -/
theorem dp_pD {v : V} {p : Nat × Nat} (h : Dp K H v (pD p)) : ∃ t, v = .ref t ∧ SqT K H t [.int p.1, .int p.2] := by
  obtain ⟨t, xs, rfl, h1, h2⟩ := dp_tup h
  cases h2 with
  | cons a h2 => cases h2 with
    | cons b h2 =>
      cases h2
      rw [dp_int a, dp_int b] at h1
      exact ⟨t, rfl, h1⟩
theorem dp_pD_mk {t : Addr} {p : Nat × Nat} (h : H t = some (.tup [.int p.1, .int p.2])) : Dp K H (.ref t) (pD p) := .tup (SqT.of h) (.cons (.int _) (.cons (.int _) .nil))
/-- a table's row -/
theorem tab_row {a : Addr} {n : Nat} {T : Nat → Nat → Bool} (h : Dp K H (.ref a) (TabD n T)) : ∃ xs, SqL K H a xs ∧ xs.length = n ∧ ∀ i, i < n → ∃ r, xs[i]? = some (.ref r) ∧ SqL K H r ((List.range n).map fun j => V.bl (T i j)) := by
  obtain ⟨a', xs, e, h1, h2⟩ := dp_lst h
  cases e
  have hl := dpa_len h2
  rw [List.length_map, List.length_range] at hl
  refine ⟨xs, h1, hl, fun i hi => ?_⟩
  obtain ⟨v, hv, hd⟩ := dpa_at h2 (i := i) (d := .list (rowL n (T i))) (by simp [hi])
  obtain ⟨r, ys, rfl, h3, h4⟩ := dp_lst hd
  rw [dpa_rowL_eq h4] at h3
  exact ⟨r, hv, h3⟩
theorem row_at {n j : Nat} {f : Nat → Bool} (h : j < n) : ((List.range n).map fun j => V.bl (f j))[j]? = some (.bl (f j)) := by simp [h]
/-- table[i][j], all three by names -/
theorem tabix {σ : L2.St} {Q : VK} {a : Addr} {n i j x y z : Nat} {T : Nat → Nat → Bool} (h : Dp K H (.ref a) (TabD n T)) (hi : i < n) (hj : j < n) (h0 : σ[x]? = some (some (.ref a))) (h1 : σ[y]? = some (some (.int i))) (h2 : σ[z]? = some (some (.int j)))
    (q : Q (.bl (T i j)) H) : tOp (rIx K) (tOp (rIx K) (tVar x) (tVar y)) (tVar z) σ H Q := by
  obtain ⟨xs, s1, _, hr⟩ := tab_row h
  obtain ⟨r, e1, s2⟩ := hr i hi
  exact ⟨_, h0, _, h1, .inl ⟨a, xs, i, .ref r, rfl, rfl, s1, atn e1, _, h2, .inl ⟨r, _, j, _, rfl, rfl, s2, atn (row_at hj), q⟩⟩⟩
/-- items of a list of ints, of pairs -/
theorem isL_at {a : Addr} {ns : List Nat} (h : Dp K H (.ref a) (.list (isL ns))) : SqL K H a (ns.map fun n : Nat => V.int n) := by
  obtain ⟨a', xs, e, h1, h2⟩ := dp_lst h
  cases e
  rw [dpa_isL_eq h2] at h1
  exact h1
theorem psL_at {a : Addr} {ps : List (Nat × Nat)} (h : Dp K H (.ref a) (.list (psL ps))) : ∃ xs, SqL K H a xs ∧ xs.length = ps.length ∧ ∀ (i : Nat) p, ps[i]? = some p → ∃ t, xs[i]? = some (.ref t) ∧ SqT K H t [.int p.1, .int p.2] := by
  obtain ⟨a', xs, e, h1, h2⟩ := dp_lst h
  cases e
  refine ⟨xs, h1, by rw [dpa_len h2]; exact List.length_map _, fun i p hp => ?_⟩
  obtain ⟨v, hv, hd⟩ := dpa_at h2 (i := i) (d := pD p) (by unfold psL; rw [List.getElem?_map, hp]; rfl)
  obtain ⟨t, rfl, h3⟩ := dp_pD hd
  exact ⟨t, hv, h3⟩
/-- [.. for j in range(n) if ..] added to a list, the sum stored -/
theorem turn_cat {jf jh n : Nat} {tt : TT} {te : TE} {ta : TA} {vs : List Nat} {σ : L2.St} {D : Ends} {r : Addr} {ds : List PyData} (hr : σ[jf]? = some (some (.ref r))) (hl : LA K H r ds) (hsz : ds.length ≤ 100000) (hn : n ≤ 100000) (p : Nat → Bool) (f : Nat → PyData)
    (ha : ∀ R, R [V.int (n : Int)] H → ta σ H R) (hw : ∀ i : Nat, wipe ((wipe σ vs).set jh (some (.int (i : Int)))) vs = wipe σ vs)
    (ht : ∀ (i : Nat) H1 (R : Bool → Hp → Prop), i < n → Same H H1 → (∀ H', Same H1 H' → R (p i) H') → tt ((wipe σ vs).set jh (some (.int (i : Int)))) H1 R)
    (he : ∀ (i : Nat) H1 (R : VK), i < n → p i = true → Same H H1 → (∀ y H', Same H1 H' → Dp K H' y (f i) → Ok H1 y (f i) → R y H') → te ((wipe σ vs).set jh (some (.int (i : Int)))) H1 R)
    (hd : ∀ r' H', H r' = none → Same H H' → LA K H' r' (ds ++ ((List.range n).filter p).map f) → D.nx (σ.set jf (some (.ref r'))) H') :
    tAsg (tOp rCat (tVar jf) (tLc (iRng1 ta) (gName jh) tt te vs)) (gName jf) D σ H := by
  refine ⟨_, hr, ha _ (lc_r1 (K := K) rfl hn p f hw ht he fun L H1 nL s1 hL => ?_)⟩
  obtain ⟨xs, h1, h2⟩ := hl.same s1
  obtain ⟨zs, h3, h4⟩ := hL
  have l1 := dpa_len h2
  have l2 := dpa_len h4
  have l3 : (((List.range n).filter p).map f).length ≤ n := by
    rw [List.length_map]
    exact Nat.le_trans (List.length_filter_le _ _) (by simp)
  refine ⟨r, L, xs, zs, rfl, rfl, h1, h3, sz (by omega), fun q nq => ?_⟩
  show D.nx (σ.set jf (some (.ref q))) (upd H1 q (.lst (xs ++ zs)))
  have s2 : Same H1 (upd H1 q (.lst (xs ++ zs))) := same_up nq
  exact hd q _ (s1.free nq) (s1.trans s2) ⟨xs ++ zs, upd_same, dpa_app (Dp.sameAll s2 _ _ h2) (Dp.sameAll s2 _ _ h4)⟩
end
/-- range(n), the number known -/
theorem take_range {n : Nat} : ∀ {i : Nat}, i < n → List.range (i + 1) = List.range i ++ [i] := fun _ => List.range_succ

/-- all pairs (i, j) below n with p i j, ascending -/
def grid (n : Nat) (p : Nat → Nat → Bool) (k : Nat) : List (Nat × Nat) := (List.range k).flatMap fun i => ((List.range n).filter (p i)).map fun j => (i, j)
theorem grid_succ (n : Nat) (p : Nat → Nat → Bool) (k : Nat) : grid n p (k + 1) = grid n p k ++ ((List.range n).filter (p k)).map fun j => (k, j) := by
  unfold grid
  rw [List.range_succ, List.flatMap_append]
  simp
theorem grid_len (n : Nat) (p : Nat → Nat → Bool) (k : Nat) : (grid n p k).length ≤ k * n := by
  induction k with
  | zero => simp [grid]
  | succ k ih =>
    rw [grid_succ, List.length_append, List.length_map]
    have h := List.length_filter_le (p k) (List.range n)
    rw [List.length_range] at h
    rw [Nat.succ_mul]
    omega
theorem mem_grid {n k : Nat} {p : Nat → Nat → Bool} {x : Nat × Nat} : x ∈ grid n p k ↔ x.1 < k ∧ x.2 < n ∧ p x.1 x.2 = true := by
  obtain ⟨i, j⟩ := x
  unfold grid
  rw [List.mem_flatMap]
  constructor
  · rintro ⟨a, ha, hb⟩
    obtain ⟨b, hb, e⟩ := List.mem_map.mp hb
    obtain ⟨h1, h2⟩ := List.mem_filter.mp hb
    cases e
    exact ⟨List.mem_range.mp ha, List.mem_range.mp h1, h2⟩
  · rintro ⟨h1, h2, h3⟩
    exact ⟨i, List.mem_range.mpr h1, List.mem_map.mpr ⟨j, List.mem_filter.mpr ⟨List.mem_range.mpr h2, h3⟩, rfl⟩⟩

section
variable {P : Program} {w : World} {K : PySem.W.Frag} {mg : Str → Option Value} {base : Heap}
abbrev s_law_pairs : Stmt := topS 62
abbrev N_law_pairs : List Str := ["_law_table", "_law_found", "_law_low", "_law_high"]
theorem sc_law_pairs : FnScope N_law_pairs ["_law_table"] (defScope s_law_pairs) := ⟨rfl, rfl, rfl, by decide +kernel, rfl, by decide +kernel, by decide +kernel⟩
def spPairs (K : PySem.W.Frag) : Sp := fun vs H Q _ => ∃ (a : Addr) (n : Nat) (T : Nat → Nat → Bool), vs = [.ref a] ∧ Dp K H (.ref a) (TabD n T) ∧ n ≤ 100 ∧ ∀ r H', H r = none → Same H H' → LA K H' r (psL (grid n T n)) → Q (.ref r) H'
theorem d_pairs (T : Blt mg) (t : TD K mg "_law_pairs" s_law_pairs) : Df P w K mg base 1 "_law_pairs" (spPairs K) := by
  refine df_mk t sc_law_pairs (fun _ _ _ _ _ _ us hl => match us, hl with | [_], _ => rfl) (fun vs H Q E h => ?_) (fun f cdv A outer s₀ H vs Q E hr h => ?_)
  · obtain ⟨a, n, X, rfl, _⟩ := h; rfl
  obtain ⟨a, n, X, rfl, hX, hn, q⟩ := h
  refine ⟨_, pss_cons (ps_set (i := 1) sc_law_pairs.nd rfl (.inl rfl) (pe_lst pa_nil))
      (pss_cons (ps_for PassesOwn.never rfl (pi_range1 rfl T.b_range (pa_cons (pe_callB (lenK (K := K) rfl) rfl T.b_len (by decide +kernel) (pa_cons (pv 0) pa_nil)) pa_nil)) (pg_name (i := 2) sc_law_pairs.nd rfl (.inr rfl))
      (pss_one (ps_set (i := 1) sc_law_pairs.nd rfl (.inl rfl) (pe_op op_cat (pv 1) (pe_lc (own := [("_law_high", 3)]) (g := gName 3) rfl sc_law_pairs.nd (pi_range1 rfl T.b_range (pa_cons (pe_callB (lenK (K := K) rfl) rfl T.b_len (by decide +kernel) (pa_cons (pv 0) pa_nil)) pa_nil)) (blkOk_by (own := [("_law_high", 3)]) (N := N_law_pairs) (sc := defScope s_law_pairs) (by decide +kernel)) (fun _ _ _ _ _ => pg_name (i := 3) sc_law_pairs.nd rfl (by first | exact .inl rfl | exact .inr rfl)) (fun _ _ _ _ _ => pts_one (pt_val (pe_ix (ixK (K := K) rfl) (pe_ix (ixK (K := K) rfl) (pv 0) (pv 2) (fun _ _ => rfl)) (pv 3) (fun _ _ => rfl)))) (fun _ _ _ _ _ => pe_tup (pa_cons (pv 2) (pa_cons (pv 3) pa_nil))))))))
      (pss_one (ps_ret (pv 1)))), ?_⟩
  obtain ⟨xs, hx, hl, _⟩ := tab_row hX
  refine ⟨Nat.zero_le _, fun r nr => ?_⟩
  ktr_call (H1 e1 hr1) nr
  refine ⟨_, rfl, a, xs, rfl, .inl (e1.seq hx), for_r1 (n := n) (by rw [hl]) (by omega) (fun i σ H3 => ∃ r v2 v3, σ = [some (.ref a), some (.ref r), v2, v3] ∧ Same H H3 ∧ H r = none ∧ LA K H3 r (psL (grid n X i))) ⟨r, none, none, rfl, e1, nr, _, hr1, .nil⟩ (fun i σ H3 hi hP => ?_) (fun σ H3 hP => ?_)⟩
  · obtain ⟨r, v2, v3, rfl, s3, nr, hL⟩ := hP
    have hg := grid_len n X i
    have hb : i * n ≤ 100 * 100 := Nat.mul_le_mul (by omega) hn
    refine turn_cat (n := n) rfl hL (by unfold psL; rw [List.length_map]; omega) (by omega) (X i) (fun j => pD (i, j)) (fun R hR => ⟨_, rfl, a, xs, rfl, .inl (s3.seq hx), by rw [hl]; exact hR⟩) (fun _ => rfl) (fun j H4 R hj s4 hR => ?_) (fun j H4 R hj hp s4 hR => ?_) (fun r' H4 nr' s4 hL' => ?_)
    · exact tabix (Dp.same (s3.trans s4) _ _ hX) hi hj rfl rfl rfl ⟨_, rfl, hR H4 (.refl _)⟩
    · refine ⟨_, rfl, _, rfl, sz (by show 2 ≤ 1000000; decide), fun t nt => ?_⟩
      exact hR _ _ (same_up nt) (dp_pD_mk upd_same) (.inl rfl)
    · refine ⟨r', _, _, rfl, s3.trans s4, s3.free nr', ?_⟩
      rw [grid_succ]
      unfold psL
      rw [List.map_append, List.map_map]
      exact hL'
  · obtain ⟨r, v2, v3, rfl, s3, nr, hL⟩ := hP
    exact ⟨_, rfl, q r H3 nr s3 hL⟩
end
end K11
set_option maxHeartbeats 4000000

/-! B5: covers, upper, integers, pairs by spans, arcs, ranks, parents. -/
namespace K11
open PySem PySem.Spec PyProof.Rows L2
section
variable {K : PySem.W.Frag} {H : Hp}
theorem sqt_ty {a : Addr} {xs : List V} (h : SqT K H a xs) : TyX K H (.ref a) (.type "tuple") := by
  rcases h with (h | ⟨o, h⟩) | ⟨o, its, n, h1, h2, _⟩
  · exact .base (.tup h)
  · exact .fTuple h
  · exact .kTuple h1 h2
theorem la_bools {a : Addr} {n : Nat} {p : Nat → Bool} {g : Nat → Bool} (h : LA K H a (((List.range n).filter p).map fun i => .bool (g i))) : H a = some (.lst ((((List.range n).filter p).map g).map V.bl)) := by
  obtain ⟨xs, h1, h2⟩ := h
  have e : (((List.range n).filter p).map fun i => PyData.bool (g i)) = (((List.range n).filter p).map g).map PyData.bool := by rw [List.map_map]; rfl
  rw [e] at h2
  rw [h1, dpa_bls_eq h2]
theorem dec_int {a b : Nat} : decide (V.int (a : Int) = V.int (b : Int)) = decide (a = b) := by
  by_cases h : a = b
  · subst h; simp
  · rw [decide_eq_false h, decide_eq_false]
    intro e
    exact h (by have := V.int.inj e; omega)
theorem dec_lt {a b : Nat} : decide ((a : Int) < (b : Int)) = decide (a < b) := by
  by_cases h : a < b
  · rw [decide_eq_true h, decide_eq_true (by omega)]
  · rw [decide_eq_false h, decide_eq_false (by omega)]
/-- an item of a list of pairs -/
def fs (ps : List (Nat × Nat)) (i : Nat) : Nat := (ps.getD i (0, 0)).1
def sn (ps : List (Nat × Nat)) (i : Nat) : Nat := (ps.getD i (0, 0)).2
section
variable {σ : L2.St} {Q : VK} {a : Addr} {ps : List (Nat × Nat)} {i x y : Nat}
theorem prix0 (h : Dp K H (.ref a) (.list (psL ps))) (hi : i < ps.length) (h0 : σ[x]? = some (some (.ref a))) (h1 : σ[y]? = some (some (.int i)))
    (q : Q (.int (fs ps i)) H) : tOp (rIx K) (tOp (rIx K) (tVar x) (tVar y)) (tC (.int 0)) σ H Q := by
  obtain ⟨xs, s1, _, hr⟩ := psL_at h
  obtain ⟨t, e1, s2⟩ := hr i ps[i] (List.getElem?_eq_getElem hi)
  refine ⟨_, h0, _, h1, .inl ⟨a, xs, i, .ref t, rfl, rfl, s1, atn e1, .inr (.inl ⟨t, _, (0 : Nat), .int ps[i].1, rfl, rfl, s2, atn (i := 0) rfl, ?_⟩)⟩⟩
  have e : fs ps i = ps[i].1 := by unfold fs; simp [hi]
  rw [e] at q
  exact q
theorem prix1 (h : Dp K H (.ref a) (.list (psL ps))) (hi : i < ps.length) (h0 : σ[x]? = some (some (.ref a))) (h1 : σ[y]? = some (some (.int i)))
    (q : Q (.int (sn ps i)) H) : tOp (rIx K) (tOp (rIx K) (tVar x) (tVar y)) (tC (.int 1)) σ H Q := by
  obtain ⟨xs, s1, _, hr⟩ := psL_at h
  obtain ⟨t, e1, s2⟩ := hr i ps[i] (List.getElem?_eq_getElem hi)
  refine ⟨_, h0, _, h1, .inl ⟨a, xs, i, .ref t, rfl, rfl, s1, atn e1, .inr (.inl ⟨t, _, (1 : Nat), .int ps[i].2, rfl, rfl, s2, atn (i := 1) rfl, ?_⟩)⟩⟩
  have e : sn ps i = ps[i].2 := by unfold sn; simp [hi]
  rw [e] at q
  exact q
/-- an item of a list of ints -/
theorem isix {ns : List Nat} (h : Dp K H (.ref a) (.list (isL ns))) (hi : i < ns.length) (h0 : σ[x]? = some (some (.ref a))) (h1 : σ[y]? = some (some (.int i)))
    (q : Q (.int (ns.getD i 0 : Nat)) H) : tOp (rIx K) (tVar x) (tVar y) σ H Q := by
  refine ⟨_, h0, _, h1, .inl ⟨a, _, i, .int (ns[i] : Nat), rfl, rfl, isL_at h, atn (by simp [hi]), ?_⟩⟩
  have e : ns.getD i 0 = ns[i] := by simp [hi]
  rw [e] at q
  exact q
end
end
def oD : Option Nat → PyData
  | none => .none
  | some p => iD p
def osL (os : List (Option Nat)) : List PyData := os.map oD
def oV : Option Nat → V
  | none => .non
  | some p => .int p
theorem dp_oD {K : PySem.W.Frag} {H : Hp} {v : V} {o : Option Nat} (h : Dp K H v (oD o)) : v = oV o := by
  cases o with
  | none => cases h; rfl
  | some p => exact dp_int h
/-- the covers of a table -/
def cov (n : Nat) (T : Nat → Nat → Bool) (i j : Nat) : Bool := T i j && !(List.range n).any fun k => T i k && T k j
def upp (n : Nat) (T : Nat → Nat → Bool) (i : Nat) : List Nat := (List.range n).filter (cov n T i)
def byArcs (ps : List (Nat × Nat)) : List (Nat × Nat) := grid ps.length (fun i j => decide (sn ps i = fs ps j)) ps.length
def bySpans (ps : List (Nat × Nat)) : List (Nat × Nat) := grid ps.length (fun i j => decide (sn ps i < fs ps j)) ps.length
def byRanks (ns : List Nat) : List (Nat × Nat) := grid ns.length (fun i j => decide (ns.getD i 0 < ns.getD j 0)) ns.length
def byPar (os : List (Option Nat)) : List (Nat × Nat) := ((List.range os.length).filter fun k => (os.getD k none).isSome).map fun k => ((os.getD k none).getD 0, k)

section
variable {P : Program} {w : World} {K : PySem.W.Frag} {mg : Str → Option Value} {base : Heap}
abbrev s_law_covers : Stmt := topS 65
abbrev N_law_covers : List Str := ["_law_table", "_law_low", "_law_high", "_law_k"]
theorem sc_law_covers : FnScope N_law_covers ["_law_table", "_law_low", "_law_high"] (defScope s_law_covers) := ⟨rfl, rfl, rfl, by decide +kernel, rfl, by decide +kernel, by decide +kernel⟩
def spCov (K : PySem.W.Frag) : Sp := fun vs H Q _ => ∃ (a : Addr) (n : Nat) (T : Nat → Nat → Bool) (i j : Nat), vs = [.ref a, .int i, .int j] ∧ Dp K H (.ref a) (TabD n T) ∧ n ≤ 100 ∧ i < n ∧ j < n ∧ ∀ H', Same H H' → Q (.bl (cov n T i j)) H'
theorem d_covers (T : Blt mg) (t : TD K mg "_law_covers" s_law_covers) : Df P w K mg base 1 "_law_covers" (spCov K) := by
  refine df_mk t sc_law_covers (fun _ _ _ _ _ _ us hl => match us, hl with | [_, _, _], _ => rfl) (fun vs H Q E h => ?_) (fun f cdv A outer s₀ H vs Q E hr h => ?_)
  · obtain ⟨a, n, X, i, j, rfl, _⟩ := h; rfl
  obtain ⟨a, n, X, i, j, rfl, hX, hn, hi, hj, q⟩ := h
  refine ⟨_, pss_cons (ps_if (pt_not (pt_val (pe_ix (ixK (K := K) rfl) (pe_ix (ixK (K := K) rfl) (pv 0) (pv 1) (fun _ _ => rfl)) (pv 2) (fun _ _ => rfl))))
      (pss_one (ps_ret (pe_bl)))
      (pss_nil))
      (pss_one (ps_ret (pe_not (pe_callB (anyK (K := K) rfl rfl) rfl T.b_any (by decide +kernel) (pa_cons (pe_lc (own := [("_law_k", 3)]) (g := gName 3) rfl sc_law_covers.nd (pi_range1 rfl T.b_range (pa_cons (pe_callB (lenK (K := K) rfl) rfl T.b_len (by decide +kernel) (pa_cons (pv 0) pa_nil)) pa_nil)) (blkOk_by (own := [("_law_k", 3)]) (N := N_law_covers) (sc := defScope s_law_covers) (by decide +kernel)) (fun _ _ _ _ _ => pg_name (i := 3) sc_law_covers.nd rfl (by first | exact .inl rfl | exact .inr rfl)) (fun _ _ _ _ _ => pts_nil) (fun _ _ _ _ _ => pe_and (pe_ix (ixK (K := K) rfl) (pe_ix (ixK (K := K) rfl) (pv 0) (pv 1) (fun _ _ => rfl)) (pv 3) (fun _ _ => rfl)) (pe_one (pe_ix (ixK (K := K) rfl) (pe_ix (ixK (K := K) rfl) (pv 0) (pv 3) (fun _ _ => rfl)) (pv 2) (fun _ _ => rfl))))) pa_nil))))), ?_⟩
  refine tabix hX hi hj rfl rfl rfl ⟨_, rfl, ?_⟩
  unfold cov at q
  cases e : X i j with
  | false =>
    rw [e] at q
    exact q H (.refl _)
  | true =>
    rw [e] at q
    obtain ⟨xs, hx, hl, _⟩ := tab_row hX
    refine ⟨_, rfl, a, xs, rfl, .inl hx, lc_r1 (K := K) (n := n) (by rw [hl]) (by omega) (fun _ => true) (fun k => .bool (X i k && X k j)) (fun _ => rfl) (fun k H1 R hk s1 hR => hR H1 (.refl _)) (fun k H1 R hk _ s1 hR => ?_) fun L H1 nL s1 hL => ?_⟩
    · have hX1 := Dp.same s1 _ _ hX
      refine tabix hX1 hi hk rfl rfl rfl ⟨_, rfl, ?_⟩
      cases e1 : X i k with
      | false => exact hR (.bl false) H1 (.refl _) (by rw [e1]; exact .bl _) (.inl rfl)
      | true => exact tabix hX1 hk hj rfl rfl rfl (hR (.bl (X k j)) H1 (.refl _) (by rw [e1]; exact .bl _) (.inl rfl))
    · have h1 := la_bools (g := fun k => X i k && X k j) hL
      refine ⟨L, _, rfl, SqL.of h1, _, rfl, ?_⟩
      have q2 := q H1 s1
      have e2 : ((((List.range n).filter fun _ => true).map fun k => X i k && X k j).any id) = (List.range n).any fun k => X i k && X k j := by
        rw [List.any_map, show (List.range n).filter (fun _ => true) = List.range n from List.filter_eq_self.mpr fun _ _ => rfl]; rfl
      rw [e2]
      exact q2

abbrev s_law_upper : Stmt := topS 66
abbrev N_law_upper : List Str := ["_law_table", "_law_element", "_law_high"]
theorem sc_law_upper : FnScope N_law_upper ["_law_table", "_law_element"] (defScope s_law_upper) := ⟨rfl, rfl, rfl, by decide +kernel, rfl, by decide +kernel, by decide +kernel⟩
def spUpp (K : PySem.W.Frag) : Sp := fun vs H Q _ => ∃ (a : Addr) (n : Nat) (T : Nat → Nat → Bool) (i : Nat), vs = [.ref a, .int i] ∧ Dp K H (.ref a) (TabD n T) ∧ n ≤ 100 ∧ i < n ∧ ∀ r H', H r = none → Same H H' → LA K H' r (isL (upp n T i)) → Q (.ref r) H'
theorem d_upper (T : Blt mg) (t : TD K mg "_law_upper" s_law_upper) (d__law_covers : Df P w K mg base 1 "_law_covers" (spCov K)) : Df P w K mg base 2 "_law_upper" (spUpp K) := by
  refine df_mk t sc_law_upper (fun _ _ _ _ _ _ us hl => match us, hl with | [_, _], _ => rfl) (fun vs H Q E h => ?_) (fun f cdv A outer s₀ H vs Q E hr h => ?_)
  · obtain ⟨a, n, X, i, rfl, _⟩ := h; rfl
  obtain ⟨a, n, X, i, rfl, hX, hn, hi, q⟩ := h
  refine ⟨_, pss_one (ps_ret (pe_lc (own := [("_law_high", 2)]) (g := gName 2) rfl sc_law_upper.nd (pi_range1 rfl T.b_range (pa_cons (pe_callB (lenK (K := K) rfl) rfl T.b_len (by decide +kernel) (pa_cons (pv 0) pa_nil)) pa_nil)) (blkOk_by (own := [("_law_high", 2)]) (N := N_law_upper) (sc := defScope s_law_upper) (by decide +kernel)) (fun _ _ _ _ _ => pg_name (i := 2) sc_law_upper.nd rfl (by first | exact .inl rfl | exact .inr rfl)) (fun _ _ _ _ _ => pts_one (pt_val (pe_df d__law_covers hr (by decide) rfl (pa_cons (pv 0) (pa_cons (pv 1) (pa_cons (pv 2) pa_nil)))))) (fun _ _ _ _ _ => pv 2))), ?_⟩
  obtain ⟨xs, hx, hl, _⟩ := tab_row hX
  refine ⟨_, rfl, a, xs, rfl, .inl hx, lc_r1 (K := K) (n := n) (by rw [hl]) (by omega) (cov n X i) iD (fun _ => rfl) (fun k H1 R hk s1 hR => ?_) (fun k H1 R hk _ s1 hR => ?_) fun L H1 nL s1 hL => q L H1 nL s1 hL⟩
  · exact ⟨_, rfl, _, rfl, _, rfl, a, n, X, i, k, rfl, Dp.same s1 _ _ hX, hn, hi, hk, fun H2 s2 => ⟨_, rfl, hR H2 s2⟩⟩
  · exact ⟨_, rfl, hR _ H1 (.refl _) (.int _) (.inl rfl)⟩

abbrev s_law_is_integer : Stmt := topS 67
abbrev N_law_is_integer : List Str := ["_law_actual"]
theorem sc_law_is_integer : FnScope N_law_is_integer ["_law_actual"] (defScope s_law_is_integer) := ⟨rfl, rfl, rfl, by decide +kernel, rfl, by decide +kernel, by decide +kernel⟩
def spIsI : Sp := fun vs H Q _ => ∃ i : Int, vs = [.int i] ∧ Q (.bl true) H
theorem d_isint (T : Blt mg) (t : TD K mg "_law_is_integer" s_law_is_integer) : Df P w K mg base 1 "_law_is_integer" spIsI := by
  refine df_mk t sc_law_is_integer (fun _ _ _ _ _ _ us hl => match us, hl with | [_], _ => rfl) (fun vs H Q E h => ?_) (fun f cdv A outer s₀ H vs Q E hr h => ?_)
  · obtain ⟨i, rfl, _⟩ := h; rfl
  obtain ⟨i, rfl, q⟩ := h
  refine ⟨_, pss_one (ps_ret (pe_and (pe_callB (isiK (K := K) rfl) rfl T.b_isinstance (by decide +kernel) (pa_cons (pv 0) (pa_cons (pe_bltn (v := .ty "int") rfl T.b_int (by decide +kernel) rfl) pa_nil))) (pe_one (pe_not (pe_callB (isiK (K := K) rfl) rfl T.b_isinstance (by decide +kernel) (pa_cons (pv 0) (pa_cons (pe_bltn (v := .ty "bool") rfl T.b_bool (by decide +kernel) rfl) pa_nil))))))), ?_⟩
  exact ⟨_, rfl, _, _, _, _, true, rfl, .ty _, .base (.int i), kit_ty (by decide +kernel), true, rfl, _, rfl, _, _, _, _, false, rfl, .ty _, .base (.int i), kit_ty (by decide +kernel), false, rfl, q⟩

abbrev s_law_are_integers : Stmt := topS 68
abbrev N_law_are_integers : List Str := ["_law_actual", "_law_item"]
theorem sc_law_are_integers : FnScope N_law_are_integers ["_law_actual"] (defScope s_law_are_integers) := ⟨rfl, rfl, rfl, by decide +kernel, rfl, by decide +kernel, by decide +kernel⟩
def spAreI (K : PySem.W.Frag) : Sp := fun vs H Q _ => ∃ (a : Addr) (ns : List Int), vs = [.ref a] ∧ SqT K H a (ns.map V.int) ∧ ns.length ≤ 10000 ∧ ∀ H', Same H H' → Q (.bl true) H'
theorem d_areint (T : Blt mg) (t : TD K mg "_law_are_integers" s_law_are_integers) (d__law_is_integer : Df P w K mg base 1 "_law_is_integer" spIsI) : Df P w K mg base 2 "_law_are_integers" (spAreI K) := by
  refine df_mk t sc_law_are_integers (fun _ _ _ _ _ _ us hl => match us, hl with | [_], _ => rfl) (fun vs H Q E h => ?_) (fun f cdv A outer s₀ H vs Q E hr h => ?_)
  · obtain ⟨a, ns, rfl, _⟩ := h; rfl
  obtain ⟨a, ns, rfl, hS, hn, q⟩ := h
  refine ⟨_, pss_one (ps_ret (pe_callB (allK (K := K) rfl rfl) rfl T.b_all (by decide +kernel) (pa_cons (pe_lc (own := [("_law_item", 1)]) (g := gName 1) rfl sc_law_are_integers.nd (pi_tup (pv 0)) (blkOk_by (own := [("_law_item", 1)]) (N := N_law_are_integers) (sc := defScope s_law_are_integers) (by decide +kernel)) (fun _ _ _ _ _ => pg_name (i := 1) sc_law_are_integers.nd rfl (by first | exact .inl rfl | exact .inr rfl)) (fun _ _ _ _ _ => pts_nil) (fun _ _ _ _ _ => pe_df d__law_is_integer hr (by decide) rfl (pa_cons (pv 1) pa_nil))) pa_nil))), ?_⟩
  refine ⟨_, rfl, a, rfl, ⟨_, hS⟩, fun D hD => lc_tup (K := K) (a := a) (xs := ns.map V.int) (fun i H1 => Same H H1 ∧ H1 D = some (.lst ((List.replicate i true).map V.bl))) ⟨same_up hD, upd_same⟩ (fun i H1 _ ⟨s1, _⟩ => K11.Same.sqt s1 hS) (fun i x H1 hx ⟨s1, hL⟩ => ?_) (fun H1 ⟨s1, hL⟩ => ?_)⟩
  · have hi : i < (ns.map V.int).length := (List.getElem?_eq_some_iff.mp hx).1
    rw [List.length_map] at hi
    obtain ⟨z, rfl⟩ : ∃ z, x = V.int z := by
      rw [List.getElem?_map, List.getElem?_eq_getElem hi] at hx
      exact ⟨_, (Option.some.inj hx).symm⟩
    refine ⟨rfl, _, rfl, z, rfl, _, hL, szl (by rw [List.length_map, List.length_replicate]; omega), K11.Same.mut s1 hD, ?_⟩
    rw [upd_same, List.replicate_succ', List.map_append]
    rfl
  · refine ⟨D, _, rfl, SqL.of hL, ?_⟩
    have e : (List.replicate (ns.map V.int).length true).all id = true := by simp
    rw [e]
    exact q H1 s1

abbrev s_law_by_spans : Stmt := topS 71
abbrev N_law_by_spans : List Str := ["_law_spans", "_law_size", "_law_found", "_law_low", "_law_high"]
theorem sc_law_by_spans : FnScope N_law_by_spans ["_law_spans"] (defScope s_law_by_spans) := ⟨rfl, rfl, rfl, by decide +kernel, rfl, by decide +kernel, by decide +kernel⟩
def spBy (K : PySem.W.Frag) (g : List (Nat × Nat) → List (Nat × Nat)) : Sp := fun vs H Q _ => ∃ (a : Addr) (ps : List (Nat × Nat)), vs = [.ref a] ∧ Dp K H (.ref a) (.list (psL ps)) ∧ ps.length ≤ 100 ∧ ∀ r H', H r = none → Same H H' → LA K H' r (psL (g ps)) → Q (.ref r) H'
theorem d_byspans (T : Blt mg) (t : TD K mg "_law_by_spans" s_law_by_spans) : Df P w K mg base 1 "_law_by_spans" (spBy K bySpans) := by
  refine df_mk t sc_law_by_spans (fun _ _ _ _ _ _ us hl => match us, hl with | [_], _ => rfl) (fun vs H Q E h => ?_) (fun f cdv A outer s₀ H vs Q E hr h => ?_)
  · obtain ⟨a, ps, rfl, _⟩ := h; rfl
  obtain ⟨a, ps, rfl, hX, hn, q⟩ := h
  refine ⟨_, pss_cons (ps_set (i := 1) sc_law_by_spans.nd rfl (.inl rfl) (pe_callB (lenK (K := K) rfl) rfl T.b_len (by decide +kernel) (pa_cons (pv 0) pa_nil)))
      (pss_cons (ps_set (i := 2) sc_law_by_spans.nd rfl (.inl rfl) (pe_lst pa_nil))
      (pss_cons (ps_for PassesOwn.never rfl (pi_range1 rfl T.b_range (pa_cons (pv 1) pa_nil)) (pg_name (i := 3) sc_law_by_spans.nd rfl (.inr rfl))
      (pss_one (ps_set (i := 2) sc_law_by_spans.nd rfl (.inl rfl) (pe_op op_cat (pv 2) (pe_lc (own := [("_law_high", 4)]) (g := gName 4) rfl sc_law_by_spans.nd (pi_range1 rfl T.b_range (pa_cons (pv 1) pa_nil)) (blkOk_by (own := [("_law_high", 4)]) (N := N_law_by_spans) (sc := defScope s_law_by_spans) (by decide +kernel)) (fun _ _ _ _ _ => pg_name (i := 4) sc_law_by_spans.nd rfl (by first | exact .inl rfl | exact .inr rfl)) (fun _ _ _ _ _ => pts_one (pt_cmpR op_lt (pe_ix (ixK (K := K) rfl) (pe_ix (ixK (K := K) rfl) (pv 0) (pv 3) (fun _ _ => rfl)) (pe_int) (fun _ _ => rfl)) (pe_ix (ixK (K := K) rfl) (pe_ix (ixK (K := K) rfl) (pv 0) (pv 4) (fun _ _ => rfl)) (pe_int) (fun _ _ => rfl)) (nomark _))) (fun _ _ _ _ _ => pe_tup (pa_cons (pv 3) (pa_cons (pv 4) pa_nil))))))))
      (pss_one (ps_ret (pv 2))))), ?_⟩
  obtain ⟨xs, hx, hl, _⟩ := psL_at hX
  refine ⟨_, rfl, a, xs, rfl, .inl hx, Nat.zero_le _, fun r nr => ?_⟩
  ktr_call (H1 e1 hr1) nr
  refine ⟨_, rfl, for_r1 (n := ps.length) (by rw [hl]) (by omega) (fun i σ H3 => ∃ r v3 v4, σ = [some (.ref a), some (.int (ps.length : Nat)), some (.ref r), v3, v4] ∧ Same H H3 ∧ H r = none ∧ LA K H3 r (psL (grid ps.length (fun i j => decide (sn ps i < fs ps j)) i))) ⟨r, none, none, by rw [hl]; rfl, e1, nr, _, hr1, .nil⟩ (fun i σ H3 hi hP => ?_) (fun σ H3 hP => ?_)⟩
  · obtain ⟨r, v3, v4, rfl, s3, nr, hL⟩ := hP
    have hg := grid_len ps.length (fun i j => decide (sn ps i < fs ps j)) i
    have hb : i * ps.length ≤ 100 * 100 := Nat.mul_le_mul (by omega) hn
    refine turn_cat (n := ps.length) rfl hL (by unfold psL; rw [List.length_map]; omega) (by omega) (fun j => decide (sn ps i < fs ps j)) (fun j => pD (i, j)) (fun R hR => ⟨_, rfl, hR⟩) (fun _ => rfl) (fun j H4 R hj s4 hR => ?_) (fun j H4 R hj hp s4 hR => ?_) (fun r' H4 nr' s4 hL' => ?_)
    · have hX4 := Dp.same (s3.trans s4) _ _ hX
      refine prix1 hX4 hi rfl rfl (prix0 hX4 hj rfl rfl ⟨_, _, rfl, rfl, _, rfl, ?_⟩)
      rw [dec_lt]
      exact hR H4 (.refl _)
    · refine ⟨_, rfl, _, rfl, sz (by show 2 ≤ 1000000; decide), fun t nt => ?_⟩
      exact hR _ _ (same_up nt) (dp_pD_mk upd_same) (.inl rfl)
    · refine ⟨r', _, _, rfl, s3.trans s4, s3.free nr', ?_⟩
      rw [grid_succ]
      unfold psL
      rw [List.map_append, List.map_map]
      exact hL'
  · obtain ⟨r, v2, v3, rfl, s3, nr, hL⟩ := hP
    exact ⟨_, rfl, q r H3 nr s3 hL⟩

abbrev s_law_by_arcs : Stmt := topS 77
abbrev N_law_by_arcs : List Str := ["_law_arcs", "_law_size", "_law_found", "_law_low", "_law_high"]
theorem sc_law_by_arcs : FnScope N_law_by_arcs ["_law_arcs"] (defScope s_law_by_arcs) := ⟨rfl, rfl, rfl, by decide +kernel, rfl, by decide +kernel, by decide +kernel⟩
theorem d_byarcs (T : Blt mg) (t : TD K mg "_law_by_arcs" s_law_by_arcs) : Df P w K mg base 1 "_law_by_arcs" (spBy K byArcs) := by
  refine df_mk t sc_law_by_arcs (fun _ _ _ _ _ _ us hl => match us, hl with | [_], _ => rfl) (fun vs H Q E h => ?_) (fun f cdv A outer s₀ H vs Q E hr h => ?_)
  · obtain ⟨a, ps, rfl, _⟩ := h; rfl
  obtain ⟨a, ps, rfl, hX, hn, q⟩ := h
  refine ⟨_, pss_cons (ps_set (i := 1) sc_law_by_arcs.nd rfl (.inl rfl) (pe_callB (lenK (K := K) rfl) rfl T.b_len (by decide +kernel) (pa_cons (pv 0) pa_nil)))
      (pss_cons (ps_set (i := 2) sc_law_by_arcs.nd rfl (.inl rfl) (pe_lst pa_nil))
      (pss_cons (ps_for PassesOwn.never rfl (pi_range1 rfl T.b_range (pa_cons (pv 1) pa_nil)) (pg_name (i := 3) sc_law_by_arcs.nd rfl (.inr rfl))
      (pss_one (ps_set (i := 2) sc_law_by_arcs.nd rfl (.inl rfl) (pe_op op_cat (pv 2) (pe_lc (own := [("_law_high", 4)]) (g := gName 4) rfl sc_law_by_arcs.nd (pi_range1 rfl T.b_range (pa_cons (pv 1) pa_nil)) (blkOk_by (own := [("_law_high", 4)]) (N := N_law_by_arcs) (sc := defScope s_law_by_arcs) (by decide +kernel)) (fun _ _ _ _ _ => pg_name (i := 4) sc_law_by_arcs.nd rfl (by first | exact .inl rfl | exact .inr rfl)) (fun _ _ _ _ _ => pts_one (pt_cmpR op_eq (pe_ix (ixK (K := K) rfl) (pe_ix (ixK (K := K) rfl) (pv 0) (pv 3) (fun _ _ => rfl)) (pe_int) (fun _ _ => rfl)) (pe_ix (ixK (K := K) rfl) (pe_ix (ixK (K := K) rfl) (pv 0) (pv 4) (fun _ _ => rfl)) (pe_int) (fun _ _ => rfl)) (nomark _))) (fun _ _ _ _ _ => pe_tup (pa_cons (pv 3) (pa_cons (pv 4) pa_nil))))))))
      (pss_one (ps_ret (pv 2))))), ?_⟩
  obtain ⟨xs, hx, hl, _⟩ := psL_at hX
  refine ⟨_, rfl, a, xs, rfl, .inl hx, Nat.zero_le _, fun r nr => ?_⟩
  ktr_call (H1 e1 hr1) nr
  refine ⟨_, rfl, for_r1 (n := ps.length) (by rw [hl]) (by omega) (fun i σ H3 => ∃ r v3 v4, σ = [some (.ref a), some (.int (ps.length : Nat)), some (.ref r), v3, v4] ∧ Same H H3 ∧ H r = none ∧ LA K H3 r (psL (grid ps.length (fun i j => decide (sn ps i = fs ps j)) i))) ⟨r, none, none, by rw [hl]; rfl, e1, nr, _, hr1, .nil⟩ (fun i σ H3 hi hP => ?_) (fun σ H3 hP => ?_)⟩
  · obtain ⟨r, v3, v4, rfl, s3, nr, hL⟩ := hP
    have hg := grid_len ps.length (fun i j => decide (sn ps i = fs ps j)) i
    have hb : i * ps.length ≤ 100 * 100 := Nat.mul_le_mul (by omega) hn
    refine turn_cat (n := ps.length) rfl hL (by unfold psL; rw [List.length_map]; omega) (by omega) (fun j => decide (sn ps i = fs ps j)) (fun j => pD (i, j)) (fun R hR => ⟨_, rfl, hR⟩) (fun _ => rfl) (fun j H4 R hj s4 hR => ?_) (fun j H4 R hj hp s4 hR => ?_) (fun r' H4 nr' s4 hL' => ?_)
    · have hX4 := Dp.same (s3.trans s4) _ _ hX
      refine prix1 hX4 hi rfl rfl (prix0 hX4 hj rfl rfl ⟨rfl, _, rfl, ?_⟩)
      rw [dec_int]
      exact hR H4 (.refl _)
    · refine ⟨_, rfl, _, rfl, sz (by show 2 ≤ 1000000; decide), fun t nt => ?_⟩
      exact hR _ _ (same_up nt) (dp_pD_mk upd_same) (.inl rfl)
    · refine ⟨r', _, _, rfl, s3.trans s4, s3.free nr', ?_⟩
      rw [grid_succ]
      unfold psL
      rw [List.map_append, List.map_map]
      exact hL'
  · obtain ⟨r, v2, v3, rfl, s3, nr, hL⟩ := hP
    exact ⟨_, rfl, q r H3 nr s3 hL⟩

abbrev s_law_by_ranks : Stmt := topS 80
abbrev N_law_by_ranks : List Str := ["_law_ranks", "_law_size", "_law_found", "_law_low", "_law_high"]
theorem sc_law_by_ranks : FnScope N_law_by_ranks ["_law_ranks"] (defScope s_law_by_ranks) := ⟨rfl, rfl, rfl, by decide +kernel, rfl, by decide +kernel, by decide +kernel⟩
def spByR (K : PySem.W.Frag) : Sp := fun vs H Q _ => ∃ (a : Addr) (ns : List Nat), vs = [.ref a] ∧ Dp K H (.ref a) (.list (isL ns)) ∧ ns.length ≤ 100 ∧ ∀ r H', H r = none → Same H H' → LA K H' r (psL (byRanks ns)) → Q (.ref r) H'
theorem d_byranks (T : Blt mg) (t : TD K mg "_law_by_ranks" s_law_by_ranks) : Df P w K mg base 1 "_law_by_ranks" (spByR K) := by
  refine df_mk t sc_law_by_ranks (fun _ _ _ _ _ _ us hl => match us, hl with | [_], _ => rfl) (fun vs H Q E h => ?_) (fun f cdv A outer s₀ H vs Q E hr h => ?_)
  · obtain ⟨a, ps, rfl, _⟩ := h; rfl
  obtain ⟨a, ps, rfl, hX, hn, q⟩ := h
  refine ⟨_, pss_cons (ps_set (i := 1) sc_law_by_ranks.nd rfl (.inl rfl) (pe_callB (lenK (K := K) rfl) rfl T.b_len (by decide +kernel) (pa_cons (pv 0) pa_nil)))
      (pss_cons (ps_set (i := 2) sc_law_by_ranks.nd rfl (.inl rfl) (pe_lst pa_nil))
      (pss_cons (ps_for PassesOwn.never rfl (pi_range1 rfl T.b_range (pa_cons (pv 1) pa_nil)) (pg_name (i := 3) sc_law_by_ranks.nd rfl (.inr rfl))
      (pss_one (ps_set (i := 2) sc_law_by_ranks.nd rfl (.inl rfl) (pe_op op_cat (pv 2) (pe_lc (own := [("_law_high", 4)]) (g := gName 4) rfl sc_law_by_ranks.nd (pi_range1 rfl T.b_range (pa_cons (pv 1) pa_nil)) (blkOk_by (own := [("_law_high", 4)]) (N := N_law_by_ranks) (sc := defScope s_law_by_ranks) (by decide +kernel)) (fun _ _ _ _ _ => pg_name (i := 4) sc_law_by_ranks.nd rfl (by first | exact .inl rfl | exact .inr rfl)) (fun _ _ _ _ _ => pts_one (pt_cmpR op_lt (pe_ix (ixK (K := K) rfl) (pv 0) (pv 3) (fun _ _ => rfl)) (pe_ix (ixK (K := K) rfl) (pv 0) (pv 4) (fun _ _ => rfl)) (nomark _))) (fun _ _ _ _ _ => pe_tup (pa_cons (pv 3) (pa_cons (pv 4) pa_nil))))))))
      (pss_one (ps_ret (pv 2))))), ?_⟩
  have hx := isL_at hX
  refine ⟨_, rfl, a, _, rfl, .inl hx, Nat.zero_le _, fun r nr => ?_⟩
  ktr_call (H1 e1 hr1) nr
  refine ⟨_, rfl, for_r1 (n := ps.length) (by rw [List.length_map]) (by omega) (fun i σ H3 => ∃ r v3 v4, σ = [some (.ref a), some (.int (ps.length : Nat)), some (.ref r), v3, v4] ∧ Same H H3 ∧ H r = none ∧ LA K H3 r (psL (grid ps.length (fun i j => decide (ps.getD i 0 < ps.getD j 0)) i))) ⟨r, none, none, by rw [List.length_map]; rfl, e1, nr, _, hr1, .nil⟩ (fun i σ H3 hi hP => ?_) (fun σ H3 hP => ?_)⟩
  · obtain ⟨r, v3, v4, rfl, s3, nr, hL⟩ := hP
    have hg := grid_len ps.length (fun i j => decide (ps.getD i 0 < ps.getD j 0)) i
    have hb : i * ps.length ≤ 100 * 100 := Nat.mul_le_mul (by omega) hn
    refine turn_cat (n := ps.length) rfl hL (by unfold psL; rw [List.length_map]; omega) (by omega) (fun j => decide (ps.getD i 0 < ps.getD j 0)) (fun j => pD (i, j)) (fun R hR => ⟨_, rfl, hR⟩) (fun _ => rfl) (fun j H4 R hj s4 hR => ?_) (fun j H4 R hj hp s4 hR => ?_) (fun r' H4 nr' s4 hL' => ?_)
    · have hX4 := Dp.same (s3.trans s4) _ _ hX
      refine isix hX4 hi rfl rfl (isix hX4 hj rfl rfl ⟨_, _, rfl, rfl, _, rfl, ?_⟩)
      rw [dec_lt]
      exact hR H4 (.refl _)
    · refine ⟨_, rfl, _, rfl, sz (by show 2 ≤ 1000000; decide), fun t nt => ?_⟩
      exact hR _ _ (same_up nt) (dp_pD_mk upd_same) (.inl rfl)
    · refine ⟨r', _, _, rfl, s3.trans s4, s3.free nr', ?_⟩
      rw [grid_succ]
      unfold psL
      rw [List.map_append, List.map_map]
      exact hL'
  · obtain ⟨r, v2, v3, rfl, s3, nr, hL⟩ := hP
    exact ⟨_, rfl, q r H3 nr s3 hL⟩

abbrev s_law_by_parents : Stmt := topS 79
abbrev N_law_by_parents : List Str := ["_law_parents", "_law_k"]
theorem sc_law_by_parents : FnScope N_law_by_parents ["_law_parents"] (defScope s_law_by_parents) := ⟨rfl, rfl, rfl, by decide +kernel, rfl, by decide +kernel, by decide +kernel⟩
def spByP (K : PySem.W.Frag) : Sp := fun vs H Q _ => ∃ (a : Addr) (os : List (Option Nat)), vs = [.ref a] ∧ Dp K H (.ref a) (.list (osL os)) ∧ os.length ≤ 100 ∧ ∀ r H', H r = none → Same H H' → LA K H' r (psL (byPar os)) → Q (.ref r) H'
theorem os_at {H : Hp} {a : Addr} {os : List (Option Nat)} (h : Dp K H (.ref a) (.list (osL os))) : SqL K H a (os.map oV) := by
  obtain ⟨a', xs, e, h1, h2⟩ := dp_lst h
  cases e
  have e : xs = os.map oV := by
    have : ∀ (os : List (Option Nat)) (xs : List V), DpAll K H xs (osL os) → xs = os.map oV := by
      intro os
      induction os with
      | nil => intro xs h; cases h; rfl
      | cons o os ih =>
        intro xs h
        cases h with
        | cons g1 g2 => rw [ih _ g2, dp_oD g1]; rfl
    exact this os xs h2
  rw [e] at h1
  exact h1
theorem osix {σ : L2.St} {H : Hp} {Q : VK} {a : Addr} {os : List (Option Nat)} {i x y : Nat} (h : Dp K H (.ref a) (.list (osL os))) (hi : i < os.length) (h0 : σ[x]? = some (some (.ref a))) (h1 : σ[y]? = some (some (.int i)))
    (q : Q (oV (os.getD i none)) H) : tOp (rIx K) (tVar x) (tVar y) σ H Q := by
  refine ⟨_, h0, _, h1, .inl ⟨a, _, i, oV os[i], rfl, rfl, os_at h, atn (by simp [hi]), ?_⟩⟩
  have e : os.getD i none = os[i] := by simp [hi]
  rw [e] at q
  exact q
theorem d_byparents (T : Blt mg) (t : TD K mg "_law_by_parents" s_law_by_parents) : Df P w K mg base 1 "_law_by_parents" (spByP K) := by
  refine df_mk t sc_law_by_parents (fun _ _ _ _ _ _ us hl => match us, hl with | [_], _ => rfl) (fun vs H Q E h => ?_) (fun f cdv A outer s₀ H vs Q E hr h => ?_)
  · obtain ⟨a, os, rfl, _⟩ := h; rfl
  obtain ⟨a, os, rfl, hX, hn, q⟩ := h
  refine ⟨_, pss_one (ps_ret (pe_lc (own := [("_law_k", 1)]) (g := gName 1) rfl sc_law_by_parents.nd (pi_range1 rfl T.b_range (pa_cons (pe_callB (lenK (K := K) rfl) rfl T.b_len (by decide +kernel) (pa_cons (pv 0) pa_nil)) pa_nil)) (blkOk_by (own := [("_law_k", 1)]) (N := N_law_by_parents) (sc := defScope s_law_by_parents) (by decide +kernel)) (fun _ _ _ _ _ => pg_name (i := 1) sc_law_by_parents.nd rfl (by first | exact .inl rfl | exact .inr rfl)) (fun _ _ _ _ _ => pts_one (pt_cmpR op_notN (pe_ix (ixK (K := K) rfl) (pv 0) (pv 1) (fun _ _ => rfl)) (pe_non) (nomark _))) (fun _ _ _ _ _ => pe_tup (pa_cons (pe_ix (ixK (K := K) rfl) (pv 0) (pv 1) (fun _ _ => rfl)) (pa_cons (pv 1) pa_nil))))), ?_⟩
  have hx := os_at hX
  refine ⟨_, rfl, a, _, rfl, .inl hx, lc_r1 (K := K) (n := os.length) (by rw [List.length_map]) (by omega) (fun k => (os.getD k none).isSome) (fun k => pD ((os.getD k none).getD 0, k)) (fun _ => rfl) (fun k H1 R hk s1 hR => ?_) (fun k H1 R hk hp s1 hR => ?_) fun L H1 nL s1 hL => q L H1 nL s1 (by unfold byPar psL; rw [List.map_map]; exact hL)⟩
  · refine osix (Dp.same s1 _ _ hX) hk rfl rfl ⟨rfl, _, rfl, ?_⟩
    have e : (!decide (oV (os.getD k none) = V.non)) = (os.getD k none).isSome := by
      cases os.getD k none <;> rfl
    rw [e]
    exact hR H1 (.refl _)
  · have hp : (os.getD k none).isSome = true := hp
    obtain ⟨z, hz⟩ := Option.isSome_iff_exists.mp hp
    refine osix (Dp.same s1 _ _ hX) hk rfl rfl ⟨_, rfl, sz (by show 2 ≤ 1000000; decide), fun t nt => ?_⟩
    rw [hz] at hR ⊢
    exact hR _ _ (same_up nt) (dp_pD_mk (p := (z, k)) upd_same) (.inl rfl)
end
end K11
set_option maxHeartbeats 4000000

/-! B6: masks: elements_of, mask_of, closed_masks. -/
namespace K11
open PySem PySem.Spec PyProof.Rows L2

/-! ### bits of numbers that are not negative -/
theorem bitOr_nat (m n : Nat) : Builtin.bitOr (m : Int) (n : Int) = ((m ||| n : Nat) : Int) := by
  have h := nat_or_add_and m n
  rw [bitOr_and, bitAnd_pp (by omega) (by omega), Int.toNat_natCast, Int.toNat_natCast]
  omega
theorem op_orN {X : Cx} : OpR X (binaryOp .BitOr) (fun x y H Q => ∃ m n : Nat, x = .int (m : Int) ∧ y = .int (n : Int) ∧ Q (.int ((m ||| n : Nat) : Int)) H) := by
  intro pins s σ H x y v u Q I rx ry h
  obtain ⟨m, n, rfl, rfl, q⟩ := h
  refine op_or (X := X) pins s σ H _ _ v u Q I rx ry ⟨_, _, rfl, rfl, ?_⟩
  have e := bitOr_nat m n
  show Q (.int (Builtin.bitOr (m : Int) (n : Int))) H
  rw [e]
  exact q
/-- m without f -/
def wo (m f : Nat) : Nat := m ^^^ (m &&& f)
theorem wo_add (m f : Nat) : wo m f + (m &&& f) = m := by
  have h := nat_or_add_and (wo m f) (m &&& f)
  have h1 : wo m f &&& (m &&& f) = 0 := by
    apply Nat.eq_of_testBit_eq
    intro i
    unfold wo
    simp only [Nat.testBit_and, Nat.testBit_xor, Nat.zero_testBit]
    cases m.testBit i <;> cases f.testBit i <;> rfl
  have h2 : wo m f ||| (m &&& f) = m := by
    apply Nat.eq_of_testBit_eq
    intro i
    unfold wo
    simp only [Nat.testBit_or, Nat.testBit_and, Nat.testBit_xor]
    cases m.testBit i <;> cases f.testBit i <;> rfl
  rw [h1, h2] at h
  omega
theorem testBit_wo (m f i : Nat) : (wo m f).testBit i = (m.testBit i && !f.testBit i) := by
  unfold wo
  simp only [Nat.testBit_and, Nat.testBit_xor]
  cases m.testBit i <;> cases f.testBit i <;> rfl
theorem wo_le (m f : Nat) : wo m f ≤ m := by have := wo_add m f; omega
theorem andNot_nat (m f : Nat) : Builtin.bitAnd (m : Int) (Builtin.bitNot (f : Int)) = ((wo m f : Nat) : Int) := by
  have h := wo_add m f
  rw [bitAnd_not, bitAnd_pp (by omega) (by omega), Int.toNat_natCast, Int.toNat_natCast]
  omega
theorem shr_nat (m k : Nat) : (m : Int) / 2 ^ k = ((m / 2 ^ k : Nat) : Int) := by
  rw [Int.natCast_ediv, two_pow_cast]
theorem tb_mod (m k : Nat) : (((m / 2 ^ k) % 2 : Nat) : Int) = if m.testBit k then 1 else 0 := by
  rw [Nat.testBit_eq_decide_div_mod_eq]
  have : (m / 2 ^ k) % 2 = 0 ∨ (m / 2 ^ k) % 2 = 1 := by omega
  rcases this with h | h <;> rw [h] <;> rfl
theorem tb_ne (m k : Nat) : (((((m / 2 ^ k) % 2 : Nat) : Int)) != 0) = m.testBit k := by
  rw [tb_mod]
  cases m.testBit k <;> rfl
/-- the bits of m below n, ascending -/
def bitsOf (n m : Nat) : List Nat := (List.range n).filter fun i => m.testBit i
theorem bits_grow {m a : Nat} (h : m < 2 ^ a) : ∀ d : Nat, bitsOf (a + d) m = bitsOf a m
  | 0 => rfl
  | d + 1 => by
    have ih := bits_grow h d
    unfold bitsOf at ih ⊢
    rw [show a + (d + 1) = a + d + 1 from rfl, List.range_succ, List.filter_append, ih]
    have : m.testBit (a + d) = false := Nat.testBit_lt_two_pow (Nat.lt_of_lt_of_le h (Nat.pow_le_pow_right (by decide) (by omega)))
    simp [this]
theorem bits_any {m a b : Nat} (h : m < 2 ^ a) (g : m < 2 ^ b) : bitsOf a m = bitsOf b m := by
  rcases Nat.le_total a b with l | l
  · rw [show b = a + (b - a) by omega, bits_grow h]
  · rw [show a = b + (a - b) by omega, bits_grow g]
theorem mem_bits {n m i : Nat} : i ∈ bitsOf n m ↔ i < n ∧ m.testBit i = true := by
  unfold bitsOf
  rw [List.mem_filter, List.mem_range]
theorem bits_len (n m : Nat) : (bitsOf n m).length ≤ n := by
  have := List.length_filter_le (fun i => m.testBit i) (List.range n)
  rw [List.length_range] at this
  exact this
theorem noL_iD (n : Nat) : noL (iD n) = true := rfl

section
variable {P : Program} {w : World} {K : PySem.W.Frag} {mg : Str → Option Value} {base : Heap}
abbrev s_elements_of : Stmt := topS 10
abbrev N_elements_of : List Str := ["mask", "found", "at"]
theorem sc_elements_of : FnScope N_elements_of ["mask"] (defScope s_elements_of) := ⟨rfl, rfl, rfl, by decide +kernel, rfl, by decide +kernel, by decide +kernel⟩
def spElems (K : PySem.W.Frag) : Sp := fun vs H Q _ => ∃ (m n : Nat), vs = [.int m] ∧ m < 2 ^ n ∧ n ≤ 100 ∧ ∀ r H', H r = none → Same H H' → LA K H' r (isL (bitsOf n m)) → Q (.ref r) H'
/-- the state of elements_of's loop -/
def WEl (K : PySem.W.Frag) (H : Hp) (r : Addr) (n m : Nat) (k : Nat) (σ : L2.St) (H3 : Hp) : Prop := ∃ at_ acc, k = m / 2 ^ at_ ∧ σ = [some (.int (k : Nat)), some (.ref r), some (.int (at_ : Nat))] ∧ Same H H3 ∧ at_ ≤ n ∧ Grow K H3 r acc (isL (bitsOf at_ m))
theorem d_elems (T : Blt mg) (t : TD K mg "elements_of" s_elements_of) : Df P w K mg base 1 "elements_of" (spElems K) := by
  refine df_mk t sc_elements_of (fun _ _ _ _ _ _ us hl => match us, hl with | [_], _ => rfl) (fun vs H Q E h => ?_) (fun f cdv A outer s₀ H vs Q E hr h => ?_)
  · obtain ⟨m, n, rfl, _⟩ := h; rfl
  obtain ⟨m, n, rfl, hm, hn, q⟩ := h
  refine ⟨_, pss_cons (ps_set (i := 1) sc_elements_of.nd rfl (.inl rfl) (pe_lst pa_nil))
      (pss_cons (ps_set (i := 2) sc_elements_of.nd rfl (.inl rfl) (pe_int))
      (pss_cons (ps_while PassesOwn.never (pt_cmpR op_gt (pv 0) (pe_int) (nomark _))
      (pss_cons (ps_if (pt_truth (pe_op op_odd (pv 0) (pe_int)) (by intro _; rfl))
      (pss_one (ps_expr (pe_bm PySem.F.plainAttrs_list PySem.F.slot_list_append PySem.F.type_list_append mt_append (pv 1) (pa_cons (pv 2) pa_nil))))
      (pss_nil))
      (pss_cons (ps_set (i := 0) sc_elements_of.nd rfl (.inl rfl) (pe_op op_halfN (pv 0) (pe_int)))
      (pss_one (ps_aug (i := 2) sc_elements_of.nd rfl (.inl rfl) (pe_int) ip_add)))))
      (pss_one (ps_ret (pv 1))))), ?_⟩
  refine ⟨Nat.zero_le _, fun r nr => ?_⟩
  ktr_call (H1 e1 hr1) nr
  refine ⟨WEl K H r n m, ⟨m, 0, [], by rw [Nat.pow_zero, Nat.div_one], rfl, e1, Nat.zero_le _, .nil hr1⟩, fun k σ H3 hW => ?_⟩
  obtain ⟨at_, acc, ek, rfl, s3, ha, g⟩ := hW
  have hl := g.len
  have hb := bits_len at_ m
  have hl2 : (isL (bitsOf at_ m)).length = (bitsOf at_ m).length := List.length_map _
  refine ⟨_, rfl, _, _, rfl, rfl, _, rfl, ite2 (fun c => ⟨_, fun _ _ h => h, ?_⟩) (fun c => ?_)⟩
  · have c : (0 : Int) < (k : Int) := of_decide_eq_true c
    have han : at_ < n := by
      rcases Nat.lt_or_ge at_ n with h | h
      · exact h
      · have : at_ = n := by omega
        subst this
        rw [Nat.div_eq_of_lt hm] at ek
        omega
    have e2 : k / 2 = m / 2 ^ (at_ + 1) := by rw [ek, Nat.div_div_eq_div_mul, Nat.pow_succ]
    have eb : bitsOf (at_ + 1) m = bitsOf at_ m ++ (if m.testBit at_ then [at_] else []) := by
      unfold bitsOf
      rw [List.range_succ, List.filter_append]
      cases h : m.testBit at_ <;> simp [h]
    refine ⟨_, rfl, k, rfl, rfl, _, rfl, ite2 (fun d => ?_) (fun d => ?_)⟩
    · have d : (((k % 2 : Nat) : Int) != 0) = true := d
      rw [ek, tb_ne] at d
      refine ⟨_, rfl, .inl ⟨rfl, _, SqL.of g.at_⟩, _, rfl, r, acc, _, rfl, rfl, g.at_, szl (by omega), ?_⟩
      tbr_iter (H4 b4 h4)
      refine ⟨_, rfl, k, rfl, rfl, _, rfl, _, _, rfl, rfl, k / 2, by omega, at_ + 1, acc ++ [V.int (at_ : Nat)], e2, rfl, K11.Same.but s3 b4 nr, by omega, ?_⟩
      rw [eb, d, if_pos rfl]
      unfold isL
      rw [List.map_append]
      exact g.app (d := iD at_) (.int _) (.inl rfl) b4 h4
    · have d : ¬ (((k % 2 : Nat) : Int) != 0) = true := d
      rw [ek, tb_ne] at d
      refine ⟨_, rfl, k, rfl, rfl, _, rfl, _, _, rfl, rfl, k / 2, by omega, at_ + 1, acc, e2, rfl, s3, by omega, ?_⟩
      rw [eb, if_neg d, List.append_nil]
      exact g
  · have c : ¬ (0 : Int) < (k : Int) := fun z => c (decide_eq_true z)
    have k0 : m / 2 ^ at_ = 0 := by omega
    have hlt : m < 2 ^ at_ := by
      rcases (Nat.div_eq_zero_iff.mp k0) with h | h
      · exact absurd h (Nat.ne_of_gt (Nat.two_pow_pos at_))
      · exact h
    refine ⟨_, rfl, q r H3 nr s3 ?_⟩
    rw [← bits_any hlt hm]
    exact g.la

abbrev s_mask_of : Stmt := topS 11
abbrev N_mask_of : List Str := ["members", "mask", "element"]
theorem sc_mask_of : FnScope N_mask_of ["members"] (defScope s_mask_of) := ⟨rfl, rfl, rfl, by decide +kernel, rfl, by decide +kernel, by decide +kernel⟩
/-- the mask of some elements -/
def maskOf (ns : List Nat) : Nat := ns.foldl (fun m e => m ||| 2 ^ e) 0
theorem maskOf_snoc (ns : List Nat) (e : Nat) : maskOf (ns ++ [e]) = maskOf ns ||| 2 ^ e := by unfold maskOf; rw [List.foldl_append]; rfl
def spMaskOf (K : PySem.W.Frag) : Sp := fun vs H Q _ => ∃ (a : Addr) (ns : List Nat), vs = [.ref a] ∧ SqL K H a (ns.map fun n : Nat => V.int n) ∧ (∀ n ∈ ns, n ≤ 1000) ∧ Q (.int (maskOf ns : Nat)) H
theorem d_maskof (T : Blt mg) (t : TD K mg "mask_of" s_mask_of) : Df P w K mg base 1 "mask_of" (spMaskOf K) := by
  refine df_mk t sc_mask_of (fun _ _ _ _ _ _ us hl => match us, hl with | [_], _ => rfl) (fun vs H Q E h => ?_) (fun f cdv A outer s₀ H vs Q E hr h => ?_)
  · obtain ⟨a, ns, rfl, _⟩ := h; rfl
  obtain ⟨a, ns, rfl, hS, hb, q⟩ := h
  refine ⟨_, pss_cons (ps_set (i := 1) sc_mask_of.nd rfl (.inl rfl) (pe_int))
      (pss_cons (ps_for PassesOwn.never rfl (pi_list (pv 0)) (pg_name (i := 2) sc_mask_of.nd rfl (.inl rfl))
      (pss_one (ps_set (i := 1) sc_mask_of.nd rfl (.inl rfl) (pe_op op_orN (pv 1) (pe_op op_oneShl (pe_int) (pv 2))))))
      (pss_one (ps_ret (pv 1)))), ?_⟩
  refine ⟨_, rfl, a, rfl, ⟨_, hS⟩, for_list (K := K) (a := a) (xs := ns.map fun n : Nat => V.int n) (fun i σ H3 => ∃ v, σ = [some (.ref a), some (.int (maskOf (ns.take i) : Nat)), v] ∧ H3 = H) ⟨none, rfl, rfl⟩ (fun i σ H3 _ ⟨_, _, e⟩ => by rw [e]; exact hS) (fun i x σ H3 hx hP => ?_) (fun σ H3 hP => ?_)⟩
  · obtain ⟨v, rfl, rfl⟩ := hP
    have hi : i < ns.length := by have := (List.getElem?_eq_some_iff.mp hx).1; simpa using this
    have ex : x = .int (ns[i] : Nat) := by
      rw [List.getElem?_map, List.getElem?_eq_getElem hi] at hx
      exact (Option.some.inj hx).symm
    subst ex
    refine ⟨_, rfl, _, rfl, ns[i], rfl, rfl, by have := hb _ (List.getElem_mem hi); omega, maskOf (ns.take i), 2 ^ ns[i], rfl, by rw [← two_pow_cast], some (.int (ns[i] : Nat)), ?_, rfl⟩
    rw [List.take_add_one, List.getElem?_eq_getElem hi, Option.toList_some, maskOf_snoc]
    rfl
  · obtain ⟨v, rfl, rfl⟩ := hP
    rw [List.length_map, List.take_length]
    exact ⟨_, rfl, q⟩
end
end K11
set_option maxHeartbeats 4000000

/-! B7: closed_masks. -/
namespace K11
open PySem PySem.Spec PyProof.Rows L2
def vN (ns : List Nat) : List V := ns.map fun n : Nat => V.int n
theorem vN_len (ns : List Nat) : (vN ns).length = ns.length := List.length_map _
theorem vN_at {ns : List Nat} {i : Nat} (h : i < ns.length) : (vN ns)[i]? = some (.int (ns[i] : Nat)) := by unfold vN; simp [h]
theorem vN_set (ns : List Nat) (i x : Nat) : (vN ns).set i (.int x) = vN (ns.set i x) := by unfold vN; rw [List.map_set]
/-- one phase of the closure of masks -/
def mf (t : Nat) (mt m : Nat) : Nat := if m.testBit t then m ||| mt else m
def mphase (t : Nat) (ms : List Nat) : List Nat := ms.map (mf t (ms.getD t 0))
def closeM (ms : List Nat) (k : Nat) : List Nat := (List.range k).foldl (fun ms t => mphase t ms) ms
theorem closeM_succ (ms : List Nat) (k : Nat) : closeM ms (k + 1) = mphase k (closeM ms k) := by unfold closeM; rw [List.range_succ, List.foldl_append]; rfl
theorem closeM_len (ms : List Nat) (k : Nat) : (closeM ms k).length = ms.length := by
  induction k with
  | zero => rfl
  | succ k ih => rw [closeM_succ]; unfold mphase; rw [List.length_map, ih]
/-- lists of successors -/
def adjL (adj : List (List Nat)) : List PyData := adj.map fun r => .list (isL r)
def toN : PyData → Nat
  | .int i => i.toNat
  | _ => 0
def rowN : PyData → List Nat
  | .list es => es.map toN
  | _ => []
theorem rowN_isL (r : List Nat) : rowN (.list (isL r)) = r := by
  show (isL r).map toN = r
  unfold isL
  rw [List.map_map]
  have : (toN ∘ iD) = id := by funext n; simp [toN, iD]
  rw [this, List.map_id]
section
variable {P : Program} {w : World} {K : PySem.W.Frag} {mg : Str → Option Value} {base : Heap}
abbrev s_closed_masks : Stmt := topS 13
abbrev N_closed_masks : List Str := ["direct", "masks", "through", "element", "row"]
theorem sc_closed_masks : FnScope N_closed_masks ["direct"] (defScope s_closed_masks) := ⟨rfl, rfl, rfl, by decide +kernel, rfl, by decide +kernel, by decide +kernel⟩
def spClosedM (K : PySem.W.Frag) : Sp := fun vs H Q _ => ∃ (a : Addr) (adj : List (List Nat)), vs = [.ref a] ∧ Dp K H (.ref a) (.list (adjL adj)) ∧ adj.length ≤ 100 ∧ (∀ r ∈ adj, ∀ n ∈ r, n ≤ 1000) ∧ ∀ r H', H r = none → Same H H' → H' r = some (.lst (vN (closeM (adj.map maskOf) adj.length))) → Q (.ref r) H'
theorem d_closedM (T : Blt mg) (t : TD K mg "closed_masks" s_closed_masks) (d_mask_of : Df P w K mg base 1 "mask_of" (spMaskOf K)) : Df P w K mg base 2 "closed_masks" (spClosedM K) := by
  refine df_mk t sc_closed_masks (fun _ _ _ _ _ _ us hl => match us, hl with | [_], _ => rfl) (fun vs H Q E h => ?_) (fun f cdv A outer s₀ H vs Q E hr h => ?_)
  · obtain ⟨a, adj, rfl, _⟩ := h; rfl
  obtain ⟨a, adj, rfl, hX, hn, hb, q⟩ := h
  refine ⟨_, pss_cons (ps_setLc (i := 1) (own := [("row", 4)]) (g := gName 4) rfl sc_closed_masks.nd rfl rfl (sw_true rfl rfl rfl (by decide +kernel)) (pi_list (pv 0)) (blkOk_by (own := [("row", 4)]) (N := N_closed_masks) (sc := defScope s_closed_masks) (by decide +kernel)) (fun _ _ _ _ _ => pg_name (i := 4) sc_closed_masks.nd rfl (by first | exact .inl rfl | exact .inr rfl)) (fun _ _ _ _ _ => pts_nil) (fun _ _ _ _ _ => pe_df d_mask_of hr (by decide) rfl (pa_cons (pv 4) pa_nil)))
      (pss_cons (ps_for PassesOwn.never rfl (pi_range1 rfl T.b_range (pa_cons (pe_callB (lenK (K := K) rfl) rfl T.b_len (by decide +kernel) (pa_cons (pv 1) pa_nil)) pa_nil)) (pg_name (i := 2) sc_closed_masks.nd rfl (.inl rfl))
      (pss_one (ps_for PassesOwn.never rfl (pi_range1 rfl T.b_range (pa_cons (pe_callB (lenK (K := K) rfl) rfl T.b_len (by decide +kernel) (pa_cons (pv 1) pa_nil)) pa_nil)) (pg_name (i := 3) sc_closed_masks.nd rfl (.inl rfl))
      (pss_one (ps_if (pt_truth (pe_op op_odd (pe_op op_shrN (pe_ix (ixK (K := K) rfl) (pv 1) (pv 3) (fun _ _ => rfl)) (pv 2)) (pe_int)) (by intro _; rfl))
      (pss_one (ps_asg (pe_op op_orN (pe_ix (ixK (K := K) rfl) (pv 1) (pv 3) (fun _ _ => rfl)) (pe_ix (ixK (K := K) rfl) (pv 1) (pv 2) (fun _ _ => rfl))) (pg_sub (pv 1) (pv 3) set_list)))
      (pss_nil))))))
      (pss_one (ps_ret (pv 1)))), ?_⟩
  obtain ⟨a', xs, e, hx, hd⟩ := dp_lst hX
  cases e
  have hl := dpa_len hd
  have hl2 : (adjL adj).length = adj.length := List.length_map _
  refine ⟨_, rfl, lc_ld (K := K) (ds := adjL adj) (by omega) hx hd (fun _ => true) (fun d => iD (maskOf (rowN d))) (fun x => [some (.ref a), none, none, none, some x]) (fun x H R h => h) (fun x => rfl) (fun x d H1 R _ _ s1 hR => hR H1 (.refl _)) (fun x d H1 R hm hxd _ s1 hR => ?_) (fun L H1 nL s1 hL => ?_)⟩
  · obtain ⟨r, hr', rfl⟩ := List.mem_map.mp hm
    obtain ⟨b, ys, rfl, hy, hy2⟩ := dp_lst hxd
    rw [dpa_isL_eq hy2] at hy
    refine ⟨_, rfl, b, r, rfl, s1.seq hy, hb r hr', ?_⟩
    have e : iD (maskOf (rowN (.list (isL r)))) = iD (maskOf r) := by rw [rowN_isL]
    rw [e] at hR
    exact hR _ H1 (.refl _) (.int _) (.inl rfl)
  · have e1 : ((adjL adj).filter fun _ => true).map (fun d => iD (maskOf (rowN d))) = isL (adj.map maskOf) := by
      rw [show ((adjL adj).filter fun _ => true) = adjL adj from List.filter_eq_self.mpr fun _ _ => rfl]
      unfold adjL isL
      rw [List.map_map, List.map_map]
      apply List.map_congr_left
      intro r _
      show iD (maskOf (rowN (.list (isL r)))) = iD (maskOf r)
      rw [rowN_isL]
    rw [e1] at hL
    obtain ⟨zs, hz, hz2⟩ := hL
    rw [dpa_isL_eq hz2] at hz
    have hz : H1 L = some (.lst (vN (closeM (adj.map maskOf) 0))) := hz
    have ln : ∀ k, (closeM (adj.map maskOf) k).length = adj.length := fun k => by rw [closeM_len, List.length_map]
    show tSeq _ _ _ _ _
    refine ⟨_, rfl, L, _, rfl, .inl (SqL.of hz), for_r1 (n := adj.length) (by rw [vN_len, ln]) (by omega) (fun i σ H3 => ∃ v2 v3, σ = [some (.ref a), some (.ref L), v2, v3, none] ∧ Same H H3 ∧ H3 L = some (.lst (vN (closeM (adj.map maskOf) i)))) ⟨none, none, rfl, s1, hz⟩ (fun t σ H3 ht hP => ?_) (fun σ H3 hP => ?_)⟩
    · obtain ⟨v2, v3, rfl, s3, h3⟩ := hP
      generalize hms : closeM (adj.map maskOf) t = ms at h3
      have lms : ms.length = adj.length := by rw [← hms]; exact ln t
      refine ⟨_, rfl, L, _, rfl, .inl (SqL.of h3), for_r1 (n := adj.length) (by rw [vN_len, lms]) (by omega) (fun i σ H4 => ∃ v3 cur, σ = [some (.ref a), some (.ref L), some (.int (t : Nat)), v3, none] ∧ Same H H4 ∧ H4 L = some (.lst (vN cur)) ∧ cur.length = adj.length ∧ ∀ j, cur.getD j 0 = if j < i then mf t (ms.getD t 0) (ms.getD j 0) else ms.getD j 0) ⟨v3, ms, rfl, s3, h3, lms, fun j => by simp⟩ (fun i σ H4 hi hP => ?_) (fun σ H4 hP => ?_)⟩
      · obtain ⟨v3, cur, rfl, s4, h4, lc, hc⟩ := hP
        have hi' : i < cur.length := by omega
        have ht' : t < cur.length := by omega
        have hci : cur[i] = ms.getD i 0 := by
          have := hc i
          rw [if_neg (Nat.lt_irrefl _)] at this
          rw [← this]; simp [hi']
        have hct : cur[t] = ms.getD t 0 := by
          have h := hc t
          have e : cur.getD t 0 = cur[t] := by simp [ht']
          rw [e] at h
          rw [h]
          split
          · unfold mf; split
            · exact Nat.or_self _
            · rfl
          · rfl
        refine ⟨_, rfl, _, rfl, .inl ⟨L, _, i, _, rfl, rfl, SqL.of h4, atn (vN_at hi'), _, rfl, _, t, rfl, rfl, cur[i] / 2 ^ t, by rw [shr_nat], rfl, _, rfl, ite2 (fun d => ?_) (fun d => ?_)⟩⟩
        · have d : ((((cur[i] / 2 ^ t) % 2 : Nat) : Int) != 0) = true := d
          rw [tb_ne, hci] at d
          refine ⟨_, rfl, _, rfl, .inl ⟨L, _, i, _, rfl, rfl, SqL.of h4, atn (vN_at hi'), _, rfl, _, rfl, .inl ⟨L, _, t, _, rfl, rfl, SqL.of h4, atn (vN_at ht'), cur[i], cur[t], rfl, rfl, ?_⟩⟩⟩
          refine ⟨_, rfl, _, rfl, L, _, i, i, rfl, rfl, h4, ixn (by rw [vN_len]; exact hi'), ?_⟩
          tbr_iter (H5 b5 h5)
          refine ⟨some (.int (i : Nat)), cur.set i (cur[i] ||| cur[t]), rfl, K11.Same.but s4 b5 nL, by rw [h5, vN_set], by rw [List.length_set]; exact lc, fun j => ?_⟩
          by_cases hj : j = i
          · subst hj
            rw [if_pos (Nat.lt_succ_self _)]
            have e : (cur.set j (cur[j] ||| cur[t])).getD j 0 = cur[j] ||| cur[t] := by simp [hi']
            rw [e, hci, hct]
            unfold mf
            rw [if_pos d]
          · have e : (cur.set i (cur[i] ||| cur[t])).getD j 0 = cur.getD j 0 := by simp [List.getElem?_set_ne (Ne.symm hj)]
            rw [e, hc j]
            by_cases h : j < i
            · rw [if_pos h, if_pos (by omega)]
            · rw [if_neg h, if_neg (by omega)]
        · have d : ¬ ((((cur[i] / 2 ^ t) % 2 : Nat) : Int) != 0) = true := d
          rw [tb_ne, hci] at d
          refine ⟨some (.int (i : Nat)), cur, rfl, s4, h4, lc, fun j => ?_⟩
          rw [hc j]
          by_cases hj : j = i
          · subst hj
            rw [if_neg (Nat.lt_irrefl _), if_pos (Nat.lt_succ_self _)]
            unfold mf
            rw [if_neg d]
          · by_cases h : j < i
            · rw [if_pos h, if_pos (by omega)]
            · rw [if_neg h, if_neg (by omega)]
      · obtain ⟨v3, cur, rfl, s4, h4, lc, hc⟩ := hP
        refine ⟨some (.int (t : Nat)), v3, rfl, s4, ?_⟩
        rw [h4, closeM_succ, hms]
        congr 3
        apply List.ext_getElem?
        intro j
        unfold mphase
        by_cases hj : j < adj.length
        · have h := hc j
          rw [if_pos hj] at h
          have e1 : cur.getD j 0 = cur[j] := by simp [show j < cur.length by omega]
          have e2 : ms.getD j 0 = ms[j] := by simp [show j < ms.length by omega]
          rw [List.getElem?_map, List.getElem?_eq_getElem (show j < cur.length by omega), List.getElem?_eq_getElem (show j < ms.length by omega), ← e1, h, e2]
          rfl
        · rw [List.getElem?_eq_none (by omega), List.getElem?_eq_none (by rw [List.length_map]; omega)]
    · obtain ⟨v2, v3, rfl, s3, h3⟩ := hP
      exact ⟨_, rfl, q L H3 nL s3 h3⟩
end
end K11
set_option maxHeartbeats 4000000

/-! B8: the closure of pairs as a table. -/
namespace K11
open PySem PySem.Spec PyProof.Rows L2
def bools (n : Nat) (f : Nat → Bool) : List V := (List.range n).map fun j => V.bl (f j)
theorem bools_len (n : Nat) (f : Nat → Bool) : (bools n f).length = n := by unfold bools; simp
theorem bools_at {n j : Nat} {f : Nat → Bool} (h : j < n) : (bools n f)[j]? = some (.bl (f j)) := row_at h
theorem bools_set (n j : Nat) (f : Nat → Bool) (b : Bool) : (bools n f).set j (.bl b) = bools n fun k => if k = j then b else f k := by
  apply List.ext_getElem?
  intro k
  by_cases hk : k < n
  · by_cases hj : j = k
    · subst hj
      rw [List.getElem?_set_self (by rw [bools_len]; exact hk), bools_at hk, if_pos rfl]
    · rw [List.getElem?_set_ne hj, bools_at hk, bools_at hk, if_neg (Ne.symm hj)]
  · rw [List.getElem?_eq_none (by rw [List.length_set, bools_len]; omega), List.getElem?_eq_none (by rw [bools_len]; omega)]
theorem bools_congr {n : Nat} {f g : Nat → Bool} (h : ∀ j, j < n → f j = g j) : bools n f = bools n g := by
  unfold bools
  apply List.map_congr_left
  intro j hj
  rw [h j (List.mem_range.mp hj)]
/-- a table of one's own at L, its rows at rs -/
structure TabAt (H : Hp) (L : Addr) (n : Nat) (T : Nat → Nat → Bool) (rs : List Addr) : Prop where
  top : H L = some (.lst (rs.map V.ref))
  len : rs.length = n
  row : ∀ (i : Nat) r, rs[i]? = some r → H r = some (.lst (bools n (T i)))
  nd : rs.Nodup
theorem nd_at {rs : List Addr} (h : rs.Nodup) {i j : Nat} {r : Addr} (a : rs[i]? = some r) (b : rs[j]? = some r) : i = j := by
  obtain ⟨h1, e1⟩ := List.getElem?_eq_some_iff.mp a
  obtain ⟨h2, e2⟩ := List.getElem?_eq_some_iff.mp b
  exact (List.getElem_inj h).mp (e1.trans e2.symm)
section
variable {K : PySem.W.Frag} {H H' : Hp} {L : Addr} {n : Nat} {T T' : Nat → Nat → Bool} {rs : List Addr}
theorem TabAt.congr (t : TabAt H L n T rs) (h : ∀ i j, i < n → j < n → T i j = T' i j) : TabAt H L n T' rs := ⟨t.top, t.len, fun i r hr => by
  have hi : i < n := by have := (List.getElem?_eq_some_iff.mp hr).1; rw [t.len] at this; exact this
  rw [t.row i r hr, bools_congr fun j hj => h i j hi hj], t.nd⟩
theorem TabAt.at_ (t : TabAt H L n T rs) {i : Nat} (hi : i < n) : ∃ r, rs[i]? = some r ∧ H r = some (.lst (bools n (T i))) :=
  ⟨rs[i]'(by rw [t.len]; exact hi), List.getElem?_eq_getElem _, t.row i _ (List.getElem?_eq_getElem _)⟩
theorem TabAt.dp (t : TabAt H L n T rs) : Dp K H (.ref L) (TabD n T) := by
  refine .lst (SqL.of t.top) (dpa_of (by rw [List.length_map, List.length_map, List.length_range, t.len]) fun i v d hv hd => ?_)
  have hi : i < n := by have := (List.getElem?_eq_some_iff.mp hd).1; simpa using this
  obtain ⟨r, hr, hrow⟩ := t.at_ hi
  rw [List.getElem?_map, hr] at hv
  cases hv
  rw [List.getElem?_map, List.getElem?_range hi] at hd
  cases hd
  exact .lst (SqL.of hrow) dpa_rowL
theorem TabAt.set (t : TabAt H L n T rs) {i j : Nat} {r : Addr} (hr : rs[i]? = some r) (hj : j < n) (b : But r H H') (h : H' r = some (.lst ((bools n (T i)).set j (.bl true)))) : TabAt H' L n (fun a c => if a = i ∧ c = j then true else T a c) rs := by
  have hi : i < n := by have := (List.getElem?_eq_some_iff.mp hr).1; rw [t.len] at this; exact this
  have hL : L ≠ r := fun e => by
    have h1 := t.row i r hr
    rw [← e, t.top] at h1
    have h2 : (rs.map V.ref)[0]? = (bools n (T i))[0]? := by
      have := HO.lst.inj (Option.some.inj h1)
      rw [this]
    have h0 : 0 < n := by omega
    rw [bools_at h0, List.getElem?_map] at h2
    cases hq : rs[0]? with
    | none => rw [hq] at h2; cases h2
    | some q => rw [hq] at h2; cases h2
  refine ⟨b.get hL t.top, t.len, fun a q hq => ?_, t.nd⟩
  by_cases ha : a = i
  · subst ha
    rw [hr] at hq
    cases hq
    rw [h, bools_set]
    congr 2
    apply bools_congr
    intro c _
    by_cases hc : c = j
    · rw [if_pos hc, if_pos ⟨rfl, hc⟩]
    · rw [if_neg hc, if_neg (fun z => hc z.2)]
  · have nq : q ≠ r := fun e => ha (nd_at t.nd hq (by rw [e]; exact hr))
    rw [b.get nq (t.row a q hq)]
    congr 2
    apply bools_congr
    intro c _
    rw [if_neg (fun z => ha z.1)]
end
/-- the pairs as a table, one phase of the closure, the closure -/
def tab0 (ps : List (Nat × Nat)) (i j : Nat) : Bool := decide ((i, j) ∈ ps)
def wst (t : Nat) (T : Nat → Nat → Bool) (i j : Nat) : Bool := T i j || (T i t && T t j)
def cloK (ps : List (Nat × Nat)) (k : Nat) : Nat → Nat → Bool := (List.range k).foldl (fun T t => wst t T) (tab0 ps)
theorem cloK_succ (ps : List (Nat × Nat)) (k : Nat) : cloK ps (k + 1) = wst k (cloK ps k) := by unfold cloK; rw [List.range_succ, List.foldl_append]; rfl
def Below (n : Nat) (ps : List (Nat × Nat)) : Prop := ∀ p ∈ ps, p.1 < n ∧ p.2 < n

section
variable {P : Program} {w : World} {K : PySem.W.Frag} {mg : Str → Option Value} {base : Heap}
abbrev s_law_closed : Stmt := topS 61
abbrev N_law_closed : List Str := ["_law_size", "_law_pairs_here", "_law_table", "_law_low", "_law_high", "_law_through", "_law_k"]
theorem sc_law_closed : FnScope N_law_closed ["_law_size", "_law_pairs_here"] (defScope s_law_closed) := ⟨rfl, rfl, rfl, by decide +kernel, rfl, by decide +kernel, by decide +kernel⟩
def spClosed (K : PySem.W.Frag) : Sp := fun vs H Q _ => ∃ (n : Nat) (a : Addr) (ps : List (Nat × Nat)), vs = [.int n, .ref a] ∧ Dp K H (.ref a) (.list (psL ps)) ∧ n ≤ 100 ∧ ps.length ≤ 100000 ∧ Below n ps ∧ ∀ L H', H L = none → Same H H' → Dp K H' (.ref L) (TabD n (cloK ps n)) → Q (.ref L) H'
/-- the fresh rows -/
structure Rows0 (H H3 : Hp) (L : Addr) (n i : Nat) (rs : List Addr) : Prop where
  same : Same H H3
  top : H3 L = some (.lst (rs.map V.ref))
  len : rs.length = i
  nd : rs.Nodup
  nL : L ∉ rs
  new : ∀ r ∈ rs, H r = none ∧ H3 r = some (.lst (bools n fun _ => false))
/-- the table as it stands between two turns: fresh against H -/
structure Tb (H H3 : Hp) (L : Addr) (n : Nat) (T : Nat → Nat → Bool) (rs : List Addr) : Prop where
  same : Same H H3
  tab : TabAt H3 L n T rs
  new : ∀ r ∈ rs, H r = none
theorem Tb.set {H H3 H4 : Hp} {L : Addr} {n : Nat} {T : Nat → Nat → Bool} {rs : List Addr} (t : Tb H H3 L n T rs) {i j : Nat} {r : Addr} (hr : rs[i]? = some r) (hj : j < n) (b : But r H3 H4) (h : H4 r = some (.lst ((bools n (T i)).set j (.bl true)))) : Tb H H4 L n (fun a c => if a = i ∧ c = j then true else T a c) rs :=
  ⟨K11.Same.but t.same b (t.new r (List.mem_of_getElem? hr)), t.tab.set hr hj b h, t.new⟩
theorem Tb.congr {H H3 : Hp} {L : Addr} {n : Nat} {T T' : Nat → Nat → Bool} {rs : List Addr} (t : Tb H H3 L n T rs) (h : ∀ i j, i < n → j < n → T i j = T' i j) : Tb H H3 L n T' rs := ⟨t.same, t.tab.congr h, t.new⟩
theorem rep_flat {x : V} (n : Nat) : (List.replicate n [x]).flatten = List.replicate n x := by
  induction n with
  | zero => rfl
  | succ n ih => rw [List.replicate_succ, List.flatten_cons, ih]; rfl
theorem rep_bools (n : Nat) : (List.replicate n [V.bl false]).flatten = bools n fun _ => false := by
  rw [rep_flat]
  apply List.ext_getElem?
  intro k
  by_cases hk : k < n
  · rw [bools_at hk, List.getElem?_replicate, if_pos hk]
  · rw [List.getElem?_eq_none (by rw [List.length_replicate]; omega), List.getElem?_eq_none (by rw [bools_len]; omega)]
theorem d_closed (T : Blt mg) (t : TD K mg "_law_closed" s_law_closed) : Df P w K mg base 1 "_law_closed" (spClosed K) := by
  refine df_mk t sc_law_closed (fun _ _ _ _ _ _ us hl => match us, hl with | [_, _], _ => rfl) (fun vs H Q E h => ?_) (fun f cdv A outer s₀ H vs Q E hr h => ?_)
  · obtain ⟨n, a, ps, rfl, _⟩ := h; rfl
  obtain ⟨n, a, ps, rfl, hX, hn, hpl, hb, q⟩ := h
  refine ⟨_, pss_cons (ps_setLc (i := 2) (own := [("_law_k", 6)]) (g := gName 6) rfl sc_law_closed.nd rfl rfl (sw_true rfl rfl rfl (by decide +kernel)) (pi_range1 rfl T.b_range (pa_cons (pv 0) pa_nil)) (blkOk_by (own := [("_law_k", 6)]) (N := N_law_closed) (sc := defScope s_law_closed) (by decide +kernel)) (fun _ _ _ _ _ => pg_name (i := 6) sc_law_closed.nd rfl (by first | exact .inl rfl | exact .inr rfl)) (fun _ _ _ _ _ => pts_nil) (fun _ _ _ _ _ => pe_op op_rep (pe_lst (pa_cons (pe_bl) pa_nil)) (pv 0)))
      (pss_cons (ps_for PassesOwn.never rfl (pi_list (pv 1)) (pg_tup rfl (pgs_cons (pg_name (i := 3) sc_law_closed.nd rfl (.inl rfl)) (pgs_cons (pg_name (i := 4) sc_law_closed.nd rfl (.inl rfl)) pgs_nil)))
      (pss_one (ps_asg (pe_bl) (pg_sub (pe_ix (ixK (K := K) rfl) (pv 2) (pv 3) (fun _ _ => rfl)) (pv 4) set_list))))
      (pss_cons (ps_for PassesOwn.never rfl (pi_range1 rfl T.b_range (pa_cons (pv 0) pa_nil)) (pg_name (i := 5) sc_law_closed.nd rfl (.inl rfl))
      (pss_one (ps_for PassesOwn.never rfl (pi_range1 rfl T.b_range (pa_cons (pv 0) pa_nil)) (pg_name (i := 3) sc_law_closed.nd rfl (.inl rfl))
      (pss_one (ps_if (pt_val (pe_ix (ixK (K := K) rfl) (pe_ix (ixK (K := K) rfl) (pv 2) (pv 3) (fun _ _ => rfl)) (pv 5) (fun _ _ => rfl)))
      (pss_one (ps_for PassesOwn.never rfl (pi_range1 rfl T.b_range (pa_cons (pv 0) pa_nil)) (pg_name (i := 4) sc_law_closed.nd rfl (.inl rfl))
      (pss_one (ps_if (pt_val (pe_ix (ixK (K := K) rfl) (pe_ix (ixK (K := K) rfl) (pv 2) (pv 5) (fun _ _ => rfl)) (pv 4) (fun _ _ => rfl)))
      (pss_one (ps_asg (pe_bl) (pg_sub (pe_ix (ixK (K := K) rfl) (pv 2) (pv 3) (fun _ _ => rfl)) (pv 4) set_list)))
      (pss_nil)))))
      (pss_nil))))))
      (pss_one (ps_ret (pv 2))))), ?_⟩
  obtain ⟨xs, hx, hl, hat⟩ := psL_at hX
  have en : ((n : Int)).toNat = n := Int.toNat_natCast n
  -- table = [[False] * size for k in range(size)]
  refine ⟨_, rfl, _, rfl, by omega, by omega, fun L nL => ?_⟩
  rw [en]
  refine lc_range (lo := 0) (n := n) (fun i H3 => ∃ rs, Rows0 H H3 L n i rs) ⟨[], same_up nL, upd_same, rfl, List.nodup_nil, by simp, by simp⟩ (fun i H3 hi ⟨rs, R⟩ => ?_) (fun H3 ⟨rs, R⟩ => ?_)
  · refine ⟨rfl, Nat.succ_le_of_lt (Nat.lt_of_lt_of_le (by decide : 0 < 1) (by decide)), fun u nu => ?_⟩
    have s1 : Same H3 (upd H3 u (.lst [.bl false])) := same_up nu
    refine ⟨_, rfl, u, n, [.bl false], rfl, rfl, upd_same, by omega, by omega, sz (by rw [List.length_singleton]; omega), fun v nv => ?_⟩
    rw [en, rep_bools]
    ktr_call (H5 s5 h5) nv
    have s2 := s1.trans s5
    refine ⟨_, s2 _ _ R.top, szl (by rw [List.length_map, R.len]; omega), rs ++ [v], ?_⟩
    have nvL : v ≠ L := fun e => by rw [e] at nv; rw [s1 _ _ R.top] at nv; cases nv
    have nvr : ∀ r ∈ rs, r ≠ v := fun r hr' e => by
      have := s1 _ _ (R.new r hr').2
      rw [e, nv] at this
      cases this
    refine ⟨K11.Same.mut (R.same.trans s2) nL, ?_, by rw [List.length_append, R.len]; rfl, ?_, ?_, ?_⟩
    · rw [upd_same, List.map_append]; rfl
    · exact List.nodup_append.mpr ⟨R.nd, by simp, fun r hr' z hz => by
        rw [List.mem_singleton] at hz
        rw [hz]
        exact nvr r hr'⟩
    · intro h
      rcases List.mem_append.mp h with h | h
      · exact R.nL h
      · exact nvL (List.mem_singleton.mp h).symm
    · intro r h
      rcases List.mem_append.mp h with h | h
      · have := R.new r h
        refine ⟨this.1, ?_⟩
        rw [upd_ne (show r ≠ L from fun e => R.nL (by rw [← e]; exact h))]
        exact s2 _ _ this.2
      · rw [List.mem_singleton] at h
        subst h
        refine ⟨R.same.free (s1.free nv), ?_⟩
        rw [upd_ne nvL]
        exact h5
  have t0 : Tb H H3 L n (tab0 []) rs := ⟨R.same, ⟨R.top, R.len, fun i r hr' => by
    rw [(R.new r (List.mem_of_getElem? hr')).2]
    congr 2, R.nd⟩, fun r hr' => (R.new r hr').1⟩
  -- for low, high in pairs
  refine ⟨_, rfl, a, rfl, ⟨_, R.same.seq hx⟩, for_list (K := K) (a := a) (xs := xs) (fun i σ H4 => ∃ v3 v4, σ = [some (.int (n : Nat)), some (.ref a), some (.ref L), v3, v4, none, none] ∧ Tb H H4 L n (tab0 (ps.take i)) rs) ⟨none, none, rfl, t0⟩ (fun i σ H4 _ ⟨_, _, _, t4⟩ => t4.same.seq hx) (fun i x σ H4 hxi hP => ?_) (fun σ H4 hP => ?_)⟩
  · obtain ⟨v3, v4, rfl, t4⟩ := hP
    have hi : i < ps.length := by have := (List.getElem?_eq_some_iff.mp hxi).1; omega
    obtain ⟨tt, e1, htt⟩ := hat i ps[i] (List.getElem?_eq_getElem hi)
    rw [hxi] at e1
    cases e1
    obtain ⟨b1, b2⟩ := hb ps[i] (List.getElem_mem hi)
    obtain ⟨r, hr', hrow⟩ := t4.tab.at_ b1
    refine ⟨tt, _, rfl, K11.Same.sqt t4.same htt, rfl, _, _, rfl, _, _, rfl, rfl, ?_⟩
    refine ⟨_, rfl, _, rfl, .inl ⟨L, _, (ps[i].1 : Nat), .ref r, rfl, rfl, SqL.of t4.tab.top, atn (by rw [List.getElem?_map, hr']; rfl), _, rfl, r, _, (ps[i].2 : Nat), ps[i].2, rfl, rfl, hrow, ixn (by rw [bools_len]; exact b2), ?_⟩⟩
    tbr_iter (H5 b5 h5)
    refine ⟨some (.int (ps[i].1 : Nat)), some (.int (ps[i].2 : Nat)), rfl, (t4.set hr' b2 b5 h5).congr fun c d _ _ => ?_⟩
    unfold tab0
    rw [List.take_add_one, List.getElem?_eq_getElem hi, Option.toList_some]
    by_cases h : c = ps[i].1 ∧ d = ps[i].2
    · rw [if_pos h]
      symm
      rw [decide_eq_true_iff]
      exact List.mem_append_right _ (by rw [List.mem_singleton, h.1, h.2])
    · rw [if_neg h]
      have : ((c, d) ∈ List.take i ps ++ [ps[i]]) ↔ ((c, d) ∈ List.take i ps) := by
        rw [List.mem_append, List.mem_singleton]
        constructor
        · rintro (z | z)
          · exact z
          · exact absurd ⟨congrArg Prod.fst z, congrArg Prod.snd z⟩ h
        · exact .inl
      simp only [this]
  -- the closure
  obtain ⟨v3, v4, rfl, t4⟩ := hP
  rw [hl, List.take_length] at t4
  refine ⟨_, rfl, for_r1 (n := n) rfl (by omega) (fun i σ H5 => ∃ v3 v4 v5, σ = [some (.int (n : Nat)), some (.ref a), some (.ref L), v3, v4, v5, none] ∧ Tb H H5 L n (cloK ps i) rs) ⟨v3, v4, none, rfl, t4⟩ (fun t σ H5 ht hP => ?_) (fun σ H5 hP => ?_)⟩
  · obtain ⟨v3, v4, v5, rfl, t5⟩ := hP
    rw [cloK_succ]
    generalize cloK ps t = X at t5
    refine ⟨_, rfl, for_r1 (n := n) rfl (by omega) (fun i σ H6 => ∃ v3 v4, σ = [some (.int (n : Nat)), some (.ref a), some (.ref L), v3, v4, some (.int (t : Nat)), none] ∧ Tb H H6 L n (fun c d => if c < i then wst t X c d else X c d) rs) ⟨v3, v4, rfl, t5.congr fun c d _ _ => by simp⟩ (fun i σ H6 hi hP => ?_) (fun σ H6 hP => ?_)⟩
    · obtain ⟨v3, v4, rfl, t6⟩ := hP
      refine tabix (i := i) (j := t) (t6.tab.dp) hi ht rfl rfl rfl ⟨_, rfl, ?_⟩
      rw [if_neg (Nat.lt_irrefl _)]
      refine ite2 (fun c => ?_) (fun c => ?_)
      · refine ⟨_, rfl, for_r1 (n := n) rfl (by omega) (fun h σ H7 => ∃ v4, σ = [some (.int (n : Nat)), some (.ref a), some (.ref L), some (.int (i : Nat)), v4, some (.int (t : Nat)), none] ∧ Tb H H7 L n (fun c d => if c < i then wst t X c d else if c = i ∧ d < h then X c d || X t d else X c d) rs) ⟨v4, rfl, t6.congr fun c d _ _ => by simp⟩ (fun h σ H7 hh hP => ?_) (fun σ H7 hP => ?_)⟩
        · obtain ⟨v4, rfl, t7⟩ := hP
          refine tabix (i := t) (j := h) (t7.tab.dp) ht hh rfl rfl rfl ⟨_, rfl, ?_⟩
          have e : (if t < i then wst t X t h else if t = i ∧ h < h then X t h || X t h else X t h) = X t h := by
            by_cases z : t < i
            · rw [if_pos z]
              unfold wst
              cases X t h <;> simp
            · rw [if_neg z, if_neg (fun z => Nat.lt_irrefl _ z.2)]
          rw [e]
          refine ite2 (fun d => ?_) (fun d => ?_)
          · obtain ⟨r, hr', hrow⟩ := t7.tab.at_ hi
            refine ⟨_, rfl, _, rfl, .inl ⟨L, _, i, .ref r, rfl, rfl, SqL.of t7.tab.top, atn (by rw [List.getElem?_map, hr']; rfl), _, rfl, r, _, h, h, rfl, rfl, hrow, ixn (by rw [bools_len]; exact hh), ?_⟩⟩
            tbr_iter (H8 b8 h8)
            refine ⟨some (.int (h : Nat)), rfl, (t7.set hr' hh b8 h8).congr fun c' d' _ _ => ?_⟩
            by_cases z : c' = i ∧ d' = h
            · obtain ⟨rfl, rfl⟩ := z
              rw [if_pos ⟨rfl, rfl⟩, if_neg (Nat.lt_irrefl _), if_pos ⟨rfl, Nat.lt_succ_self _⟩, d, Bool.or_true]
            · rw [if_neg z]
              by_cases z1 : c' < i
              · rw [if_pos z1, if_pos z1]
              · rw [if_neg z1, if_neg z1]
                by_cases z2 : c' = i ∧ d' < h
                · rw [if_pos z2, if_pos ⟨z2.1, by omega⟩]
                · rw [if_neg z2, if_neg (fun z3 => by
                    have : d' ≠ h := fun e => z ⟨z3.1, e⟩
                    exact z2 ⟨z3.1, by omega⟩)]
          · refine ⟨some (.int (h : Nat)), rfl, t7.congr fun c' d' _ _ => ?_⟩
            by_cases z1 : c' < i
            · rw [if_pos z1, if_pos z1]
            · rw [if_neg z1, if_neg z1]
              by_cases z2 : c' = i ∧ d' < h
              · rw [if_pos z2, if_pos ⟨z2.1, by omega⟩]
              · by_cases z3 : c' = i ∧ d' < h + 1
                · have : d' = h := by omega
                  subst this
                  rw [if_neg z2, if_pos z3]
                  have d : X t d' = false := by simpa using d
                  rw [d, Bool.or_false]
                · rw [if_neg z2, if_neg z3]
        · obtain ⟨v4, rfl, t7⟩ := hP
          refine ⟨some (.int (i : Nat)), v4, rfl, t7.congr fun c' d' _ hd' => ?_⟩
          by_cases z1 : c' < i
          · rw [if_pos z1, if_pos (by omega)]
          · rw [if_neg z1]
            by_cases z2 : c' = i
            · subst z2
              rw [if_pos ⟨rfl, hd'⟩, if_pos (Nat.lt_succ_self _)]
              unfold wst
              rw [c, Bool.true_and]
            · rw [if_neg (fun z => z2 z.1), if_neg (by omega)]
      · refine ⟨some (.int (i : Nat)), v4, rfl, t6.congr fun c' d' _ _ => ?_⟩
        by_cases z1 : c' < i
        · rw [if_pos z1, if_pos (by omega)]
        · rw [if_neg z1]
          by_cases z2 : c' = i
          · subst z2
            rw [if_pos (Nat.lt_succ_self _)]
            unfold wst
            have c : X c' t = false := by simpa using c
            rw [c, Bool.false_and, Bool.or_false]
          · rw [if_neg (by omega)]
    · obtain ⟨v3, v4, rfl, t6⟩ := hP
      exact ⟨v3, v4, some (.int (t : Nat)), rfl, t6.congr fun c d hc _ => by rw [if_pos hc]⟩
  · obtain ⟨v3, v4, v5, rfl, t5⟩ := hP
    exact ⟨_, rfl, q L H5 nL t5.same t5.tab.dp⟩
end
end K11
set_option maxHeartbeats 4000000

/-! B9: pairs that are drawn. -/
namespace K11
open PySem PySem.Spec PyProof.Rows L2
mutual
theorem n3_of_noL : ∀ d : PyData, noL d = true → n3 d = true
  | .none, _ => rfl
  | .bool _, _ => rfl
  | .int _, _ => rfl
  | .str _, _ => rfl
  | .list _, h => by rw [noL] at h; cases h
  | .tuple ds, h => by rw [noL] at h; rw [n3]; exact n3A_of_noLA ds h
  | .dict _, h => by rw [noL] at h; cases h
theorem n3A_of_noLA : ∀ ds : List PyData, noLA ds = true → n3A ds = true
  | [], _ => rfl
  | d :: ds, h => by
    rw [noLA, Bool.and_eq_true] at h
    rw [n3A, Bool.and_eq_true]
    exact ⟨n3_of_noL d h.1, n3A_of_noLA ds h.2⟩
end
section
variable {K : PySem.W.Frag} {s l : Addr} {H H' : Hp} {acc : List V} {ds : List PyData}
theorem Grow.stm (g : Grow K H l acc ds) (e : Stm s H H') (hs : Strm H s) (n : l ≠ s) (hn : noLA ds = true) : Grow K H' l acc ds :=
  ⟨e.keep _ _ n g.at_, Stm.dpAll e hs _ _ (n3A_of_noLA _ hn) g.dat, g.off⟩
theorem LA.stm (g : LA K H l ds) (e : Stm s H H') (hs : Strm H s) (n : l ≠ s) (hn : noLA ds = true) : LA K H' l ds := by
  obtain ⟨xs, h1, h2⟩ := g
  exact ⟨xs, e.keep _ _ n h1, Stm.dpAll e hs _ _ (n3A_of_noLA _ hn) h2⟩
end
theorem psL_snoc (ps : List (Nat × Nat)) (p : Nat × Nat) : psL (ps ++ [p]) = psL ps ++ [pD p] := by unfold psL; rw [List.map_append]; rfl
theorem perm_map {α β : Type} {f : α → β} {ys l : List β} (p : ys.Perm l) : ∀ {ms : List α}, l = ms.map f → ∃ ns : List α, ns.Perm ms ∧ ys = ns.map f := by
  induction p with
  | nil => intro ms h; exact ⟨ms, .refl _, h⟩
  | cons x _ ih =>
    intro ms h
    cases ms with
    | nil => cases h
    | cons m ms =>
      rw [List.map_cons] at h
      injection h with h1 h2
      obtain ⟨ns, p, e⟩ := ih h2
      exact ⟨m :: ns, p.cons m, by rw [List.map_cons, h1, e]⟩
  | swap x y l =>
    intro ms h
    match ms, h with
    | a :: b :: ms, h =>
      simp only [List.map_cons] at h
      injection h with h1 h2
      injection h2 with h2 h3
      exact ⟨b :: a :: ms, .swap _ _ _, by simp [h1, h2, h3]⟩
  | trans _ _ ih1 ih2 =>
    intro ms h
    obtain ⟨ns, p, e⟩ := ih2 h
    obtain ⟨ns', p', e'⟩ := ih1 e
    exact ⟨ns', p'.trans p, e'⟩
theorem rg_range (n : Nat) : rgV 0 (n : Int) = vN (List.range n) := by
  unfold rgV vN
  rw [Int.sub_zero, Int.toNat_natCast]
  apply List.map_congr_left
  intro i _
  rw [Int.zero_add]
theorem rg_ok {n : Nat} (h : n ≤ 1000000) : RgOk 0 (n : Int) := RgOk.of_le (Int.le_refl 0) (by omega) (by omega) (by omega)
/-- pairs below n without a ring: some rank rises -/
def Acy (n : Nat) (ps : List (Nat × Nat)) : Prop := Below n ps ∧ ∃ r : Nat → Nat, ∀ p ∈ ps, r p.1 < r p.2
/-- names: each number below n once -/
structure Names (ns : List Nat) (n : Nat) : Prop where
  len : ns.length = n
  lt : ∀ x ∈ ns, x < n
  nd : ns.Nodup
theorem names_of {ns : List Nat} {n : Nat} (p : ns.Perm (List.range n)) : Names ns n :=
  ⟨by rw [p.length_eq, List.length_range], fun x hx => List.mem_range.mp (p.mem_iff.mp hx), p.nodup_iff.mpr List.nodup_range⟩
theorem Names.idx {ns : List Nat} {n i : Nat} (h : Names ns n) (hi : i < ns.length) : ns.idxOf ns[i] = i := by
  have h1 : ns.idxOf ns[i] < ns.length := List.idxOf_lt_length_of_mem (List.getElem_mem hi)
  have h2 : ns[ns.idxOf ns[i]] = ns[i] := List.getElem_idxOf h1
  exact (List.getElem_inj h.nd).mp h2
section
variable {P : Program} {w : World} {K : PySem.W.Frag} {mg : Str → Option Value} {base : Heap}
abbrev s_law_any_spans : Stmt := topS 70
abbrev N_law_any_spans : List Str := ["_law_stream_here", "_law_size", "_law_most", "_law_length", "_law_spans", "_law_k", "_law_left", "_law_right_here"]
theorem sc_law_any_spans : FnScope N_law_any_spans ["_law_stream_here", "_law_size", "_law_most", "_law_length"] (defScope s_law_any_spans) := ⟨rfl, rfl, rfl, by decide +kernel, rfl, by decide +kernel, by decide +kernel⟩
def spSpans (K : PySem.W.Frag) : Sp := fun vs H Q _ => ∃ (s : Addr) (n m : Nat) (len : Int), vs = [.ref s, .int n, .int m, .int len] ∧ Strm H s ∧ n ≤ 1000 ∧ 0 < m ∧ m ≤ 1000 ∧ ((len < 0) ∨ ∃ k : Nat, len = k) ∧
  ∀ r ps H', H r = none → Stm s H H' → LA K H' r (psL ps) → ps.length = n → (∀ p ∈ ps, p.1 ≤ p.2) → Q (.ref r) H'
theorem d_anyspans (T : Blt mg) (t : TD K mg "_law_any_spans" s_law_any_spans) (d__law_draw : Df P w K mg base 1 "_law_draw" spDraw) : Df P w K mg base 2 "_law_any_spans" (spSpans K) := by
  refine df_mk t sc_law_any_spans (fun _ _ _ _ _ _ us hl => match us, hl with | [_, _, _, _], _ => rfl) (fun vs H Q E h => ?_) (fun f cdv A outer s₀ H vs Q E hr h => ?_)
  · obtain ⟨s, n, m, len, rfl, _⟩ := h; rfl
  obtain ⟨s, n, m, len, rfl, hs, hn, m0, m1, hlen, q⟩ := h
  refine ⟨_, pss_cons (ps_set (i := 4) sc_law_any_spans.nd rfl (.inl rfl) (pe_lst pa_nil))
      (pss_cons (ps_for PassesOwn.never rfl (pi_range1 rfl T.b_range (pa_cons (pv 1) pa_nil)) (pg_name (i := 5) sc_law_any_spans.nd rfl (.inl rfl))
      (pss_cons (ps_set (i := 6) sc_law_any_spans.nd rfl (.inl rfl) (pe_df d__law_draw hr (by decide) rfl (pa_cons (pv 0) (pa_cons (pv 2) pa_nil))))
      (pss_cons (ps_set (i := 7) sc_law_any_spans.nd rfl (.inl rfl) (pe_op op_add (pv 6) (pv 3)))
      (pss_cons (ps_if (pt_cmpR op_lt (pv 3) (pe_int) (nomark _))
      (pss_one (ps_set (i := 7) sc_law_any_spans.nd rfl (.inl rfl) (pe_op op_add (pv 6) (pe_df d__law_draw hr (by decide) rfl (pa_cons (pv 0) (pa_cons (pv 2) pa_nil))))))
      (pss_nil))
      (pss_one (ps_expr (pe_bm PySem.F.plainAttrs_list PySem.F.slot_list_append PySem.F.type_list_append mt_append (pv 4) (pa_cons (pe_tup (pa_cons (pv 6) (pa_cons (pv 7) pa_nil))) pa_nil))))))))
      (pss_one (ps_ret (pv 4)))), ?_⟩
  refine ⟨Nat.zero_le _, fun r nr => ?_⟩
  ktr_call (H1 e1 hr1) nr
  have nrs := hs.ne nr
  refine ⟨_, rfl, for_r1 (n := n) rfl (by omega) (fun i σ H3 => ∃ v5 v6 v7 acc ps, σ = [some (.ref s), some (.int (n : Nat)), some (.int (m : Nat)), some (.int len), some (.ref r), v5, v6, v7] ∧ Stm s H H3 ∧ Grow K H3 r acc (psL ps) ∧ ps.length = i ∧ ∀ p ∈ ps, p.1 ≤ p.2) ⟨none, none, none, [], [], rfl, Stm.of hs e1, .nil hr1, rfl, by simp⟩ (fun i σ H3 hi hP => ?_) (fun σ H3 hP => ?_)⟩
  · obtain ⟨v5, v6, v7, acc, ps, rfl, s3, g, lp, hp⟩ := hP
    have hl := g.len
    have hl2 : (psL ps).length = ps.length := List.length_map _
    refine ⟨_, rfl, _, rfl, s, m, rfl, s3.st, m0, by omega, fun d H4 hd s4 => ?_⟩
    have g4 := g.stm s4 s3.st nrs (noLA_psL ps)
    -- what follows, for a right end that is known
    have fin : ∀ (x : Nat) (H5 : Hp), d ≤ x → Stm s H H5 → Grow K H5 r acc (psL ps) → ∀ (D : Ends) (v5 : Option V), D.nx = (fun σ H3 => ∃ v5 v6 v7 acc ps, σ = [some (.ref s), some (.int (n : Nat)), some (.int (m : Nat)), some (.int len), some (.ref r), v5, v6, v7] ∧ Stm s H H3 ∧ Grow K H3 r acc (psL ps) ∧ ps.length = i + 1 ∧ ∀ p ∈ ps, p.1 ≤ p.2) →
        tDrop (tBM K "list" rAppend (tVar 4) (tCons (tTup (tCons (tVar 6) (tCons (tVar 7) tNil))) tNil)) D [some (.ref s), some (.int (n : Nat)), some (.int (m : Nat)), some (.int len), some (.ref r), v5, some (.int (d : Nat)), some (.int (x : Nat))] H5 := by
      intro x H5 hx s5 g5 D v5 eD
      refine ⟨_, rfl, .inl ⟨rfl, _, SqL.of g5.at_⟩, _, rfl, _, rfl, sz (by show 2 ≤ 1000000; decide), fun t nt => ?_⟩
      ktr_call (H6 e6 h6) nt
      have g6 := g5.same e6
      refine ⟨r, acc, .ref t, rfl, rfl, g6.at_, szl (by omega), ?_⟩
      tbr_iter (H7 b7 h7)
      show D.nx _ H7
      rw [eD]
      refine ⟨v5, some (.int (d : Nat)), some (.int (x : Nat)), acc ++ [.ref t], ps ++ [(d, x)], rfl, (s5.then e6).but b7 nr nrs, ?_, by rw [List.length_append, lp]; rfl, ?_⟩
      · rw [psL_snoc]
        exact g6.app (dp_pD_mk (p := (d, x)) h6) (.inl rfl) b7 h7
      · intro p hp'
        rcases List.mem_append.mp hp' with h | h
        · exact hp p h
        · rw [List.mem_singleton] at h
          subst h
          exact hx
    refine ⟨_, rfl, _, rfl, _, _, rfl, rfl, ?_⟩
    refine ⟨_, rfl, _, _, rfl, rfl, _, rfl, ite2 (fun c => ?_) (fun c => ?_)⟩
    · refine ⟨_, rfl, _, rfl, _, rfl, s, m, rfl, s4.st, m0, by omega, fun d2 H5 hd2 s5 => ⟨_, _, rfl, rfl, ?_⟩⟩
      exact fin (d + d2) H5 (by omega) ((s3.trans s4).trans s5) (g4.stm s5 s4.st nrs (noLA_psL ps)) _ (some (.int (i : Nat))) rfl
    · have c : ¬ len < 0 := fun z => c (decide_eq_true z)
      rcases hlen with h | ⟨k, rfl⟩
      · exact absurd h c
      · exact fin (d + k) H4 (by omega) (s3.trans s4) g4 _ (some (.int (i : Nat))) rfl
  · obtain ⟨v5, v6, v7, acc, ps, rfl, s3, g, lp, hp⟩ := hP
    exact ⟨_, rfl, q r ps H3 nr s3 g.la lp hp⟩

abbrev s_law_any_arcs : Stmt := topS 76
abbrev N_law_any_arcs : List Str := ["_law_stream_here", "_law_size", "_law_nodes", "_law_arcs", "_law_k", "_law_tail"]
theorem sc_law_any_arcs : FnScope N_law_any_arcs ["_law_stream_here", "_law_size"] (defScope s_law_any_arcs) := ⟨rfl, rfl, rfl, by decide +kernel, rfl, by decide +kernel, by decide +kernel⟩
def spArcs (K : PySem.W.Frag) : Sp := fun vs H Q _ => ∃ (s : Addr) (n : Nat), vs = [.ref s, .int n] ∧ Strm H s ∧ n ≤ 1000 ∧
  ∀ r ps H', H r = none → Stm s H H' → LA K H' r (psL ps) → ps.length = n → (∀ p ∈ ps, p.1 < p.2) → Q (.ref r) H'
theorem d_anyarcs (T : Blt mg) (t : TD K mg "_law_any_arcs" s_law_any_arcs) (d__law_draw : Df P w K mg base 1 "_law_draw" spDraw) : Df P w K mg base 2 "_law_any_arcs" (spArcs K) := by
  refine df_mk t sc_law_any_arcs (fun _ _ _ _ _ _ us hl => match us, hl with | [_, _], _ => rfl) (fun vs H Q E h => ?_) (fun f cdv A outer s₀ H vs Q E hr h => ?_)
  · obtain ⟨s, n, rfl, _⟩ := h; rfl
  obtain ⟨s, n, rfl, hs, hn, q⟩ := h
  refine ⟨_, pss_cons (ps_set (i := 2) sc_law_any_arcs.nd rfl (.inl rfl) (pe_op op_add (pe_int) (pe_df d__law_draw hr (by decide) rfl (pa_cons (pv 0) (pa_cons (pe_op op_add (pv 1) (pe_int)) pa_nil)))))
      (pss_cons (ps_set (i := 3) sc_law_any_arcs.nd rfl (.inl rfl) (pe_lst pa_nil))
      (pss_cons (ps_for PassesOwn.never rfl (pi_range1 rfl T.b_range (pa_cons (pv 1) pa_nil)) (pg_name (i := 4) sc_law_any_arcs.nd rfl (.inl rfl))
      (pss_cons (ps_set (i := 5) sc_law_any_arcs.nd rfl (.inl rfl) (pe_df d__law_draw hr (by decide) rfl (pa_cons (pv 0) (pa_cons (pe_op op_sub (pv 2) (pe_int)) pa_nil))))
      (pss_one (ps_expr (pe_bm PySem.F.plainAttrs_list PySem.F.slot_list_append PySem.F.type_list_append mt_append (pv 3) (pa_cons (pe_tup (pa_cons (pv 5) (pa_cons (pe_op op_add (pe_op op_add (pv 5) (pe_int)) (pe_df d__law_draw hr (by decide) rfl (pa_cons (pv 0) (pa_cons (pe_op op_sub (pe_op op_sub (pv 2) (pe_int)) (pv 5)) pa_nil)))) pa_nil))) pa_nil))))))
      (pss_one (ps_ret (pv 3))))), ?_⟩
  refine ⟨_, rfl, _, rfl, _, _, rfl, rfl, s, n + 2, rfl, hs, by omega, by omega, fun z H0 hz s0 => ⟨_, _, rfl, rfl, ?_⟩⟩
  refine ⟨Nat.zero_le _, fun r nr => ?_⟩
  ktr_call (H1 e1 hr1) nr
  have nrs := s0.st.ne nr
  have nr0 := s0.free nr
  refine ⟨_, rfl, for_r1 (n := n) rfl (by omega) (fun i σ H3 => ∃ v4 v5 acc ps, σ = [some (.ref s), some (.int (n : Nat)), some (.int (2 + z : Int)), some (.ref r), v4, v5] ∧ Stm s H H3 ∧ Grow K H3 r acc (psL ps) ∧ ps.length = i ∧ ∀ p ∈ ps, p.1 < p.2) ⟨none, none, [], [], rfl, s0.then e1, .nil hr1, rfl, by simp⟩ (fun i σ H3 hi hP => ?_) (fun σ H3 hP => ?_)⟩
  · obtain ⟨v4, v5, acc, ps, rfl, s3, g, lp, hp⟩ := hP
    have hl := g.len
    have hl2 : (psL ps).length = ps.length := List.length_map _
    refine ⟨_, rfl, _, rfl, _, _, rfl, rfl, s, 1 + z, ?_, s3.st, by omega, by omega, fun d H4 hd s4 => ?_⟩
    · show ([V.ref s, V.int ((2 + z : Int) - 1)] : List V) = _
      congr 3
      omega
    have g4 := g.stm s4 s3.st nrs (noLA_psL ps)
    refine ⟨_, rfl, .inl ⟨rfl, _, SqL.of g4.at_⟩, _, rfl, _, rfl, _, _, rfl, rfl, _, rfl, _, rfl, _, _, rfl, rfl, _, rfl, _, _, rfl, rfl, s, 1 + z - d, ?_, s4.st, by omega, by omega, fun d2 H5 hd2 s5 => ⟨_, _, rfl, rfl, ?_⟩⟩
    · show ([V.ref s, V.int ((2 + z : Int) - 1 - d)] : List V) = _
      congr 3
      omega
    have g5 := g4.stm s5 s4.st nrs (noLA_psL ps)
    refine ⟨sz (by show 2 ≤ 1000000; decide), fun t nt => ?_⟩
    ktr_call (H6 e6 h6) nt
    have g6 := g5.same e6
    refine ⟨r, acc, .ref t, rfl, rfl, g6.at_, szl (by omega), ?_⟩
    tbr_iter (H7 b7 h7)
    refine ⟨some (.int (i : Nat)), some (.int (d : Nat)), acc ++ [.ref t], ps ++ [(d, d + 1 + d2)], rfl, (((s3.trans s4).trans s5).then e6).but b7 nr0 nrs, ?_, by rw [List.length_append, lp]; rfl, ?_⟩
    · rw [psL_snoc]
      exact g6.app (dp_pD_mk (p := (d, d + 1 + d2)) h6) (.inl rfl) b7 h7
    · intro p hp'
      rcases List.mem_append.mp hp' with h | h
      · exact hp p h
      · rw [List.mem_singleton] at h
        subst h
        show d < d + 1 + d2
        omega
  · obtain ⟨v4, v5, acc, ps, rfl, s3, g, lp, hp⟩ := hP
    exact ⟨_, rfl, q r ps H3 nr0 s3 g.la lp hp⟩
end
end K11
set_option maxHeartbeats 4000000

/-! B10: pairs by names: any_pairs, any_parents, crown, by_rows. -/
namespace K11
open PySem PySem.Spec PyProof.Rows L2
theorem cutV_drop (xs : List V) (k : Nat) : cutV xs (some (k : Int)) none = xs.drop k := by
  unfold cutV
  rw [HT.sIx_nat, HT.sIx_none]
  by_cases h : k ≤ xs.length
  · rw [Nat.min_eq_left h, List.take_of_length_le (by rw [List.length_drop]; omega)]
  · rw [Nat.min_eq_right (by omega), List.drop_eq_nil_of_le (Nat.le_refl _), List.drop_eq_nil_of_le (by omega), List.take_nil]
theorem cutV_take (xs : List V) (k : Nat) : cutV xs none (some (k : Int)) = xs.take k := by
  unfold cutV
  rw [HT.sIx_nat, HT.sIx_none, List.drop_zero, Nat.sub_zero]
  by_cases h : k ≤ xs.length
  · rw [Nat.min_eq_left h]
  · rw [Nat.min_eq_right (by omega), List.take_of_length_le (Nat.le_refl _), List.take_of_length_le (by omega)]
theorem idx_le : ∀ {l : List Nat} {m : Nat} (h : m < l.length), l.idxOf l[m] ≤ m
  | x :: l, 0, _ => by rw [List.getElem_cons_zero, List.idxOf_cons_self]; exact Nat.le_refl _
  | x :: l, m + 1, h => by
    rw [List.getElem_cons_succ, List.idxOf_cons]
    have ih := idx_le (l := l) (m := m) (by simpa using h)
    cases (x == l[m]'(by simpa using h)) with
    | true => exact Nat.zero_le _
    | false => exact Nat.succ_le_succ ih
section
variable {K : PySem.W.Frag} {H : Hp}
theorem LA.grow {l : Addr} {ds : List PyData} (h : LA K H l ds) (n : noLA ds = true) : ∃ acc, Grow K H l acc ds := by
  obtain ⟨xs, h1, h2⟩ := h
  exact ⟨xs, h1, h2, fun i v d _ hd => .inl (noLA_mem n d (List.mem_of_getElem? hd))⟩
/-- a list of one's own plus a list that an expression makes, the sum stored -/
theorem cat_then {jf : Nat} {tr : TE} {σ : L2.St} {D : Ends} {r : Addr} {ds zs : List PyData} (hr : σ[jf]? = some (some (.ref r))) (hl : LA K H r ds) (hsz : ds.length + zs.length ≤ 1000000)
    (ht : ∀ Q : VK, (∀ L H1, Same H H1 → LA K H1 L zs → Q (.ref L) H1) → tr σ H Q)
    (hd : ∀ r' H', H r' = none → Same H H' → LA K H' r' (ds ++ zs) → D.nx (σ.set jf (some (.ref r'))) H') :
    tAsg (tOp rCat (tVar jf) tr) (gName jf) D σ H := by
  refine ⟨_, hr, ht _ fun L H1 s1 hL => ?_⟩
  obtain ⟨xs, h1, h2⟩ := hl.same s1
  obtain ⟨ws, h3, h4⟩ := hL
  have l1 := dpa_len h2
  have l2 := dpa_len h4
  refine ⟨r, L, xs, ws, rfl, rfl, h1, h3, sz (by omega), fun q nq => ?_⟩
  show D.nx (σ.set jf (some (.ref q))) (upd H1 q (.lst (xs ++ ws)))
  have s2 : Same H1 (upd H1 q (.lst (xs ++ ws))) := same_up nq
  exact hd q _ (s1.free nq) (s1.trans s2) ⟨xs ++ ws, upd_same, dpa_app (Dp.sameAll s2 _ _ h2) (Dp.sameAll s2 _ _ h4)⟩
/-- the place of a number in a list of numbers -/
theorem idx_at {Q : VK} {a : Addr} {ns : List Nat} {x : Nat} (hS : SqL K H a (vN ns)) (hx : x ∈ ns) (q : Q (.int (ns.idxOf x : Nat)) H) : rIndex K (.ref a) [.int (x : Int)] H Q := by
  have h1 : ns.idxOf x < ns.length := List.idxOf_lt_length_of_mem hx
  refine ⟨a, vN ns, .int (x : Nat), ns.idxOf x, .int (x : Nat), rfl, rfl, hS, rfl, ?_, ?_, ?_, fun m z' hm hz => ?_, q⟩
  · unfold vN
    rw [List.all_map]
    exact List.all_eq_true.mpr fun _ _ => rfl
  · rw [vN_at h1]
    have : ns[ns.idxOf x] = x := List.getElem_idxOf h1
    rw [this]
  · show ((x : Int) == (x : Int)) = true
    exact beq_self_eq_true _
  · rw [vN_at (Nat.lt_trans hm h1)] at hz
    cases hz
    show (((ns[m]'(Nat.lt_trans hm h1) : Nat) : Int) == (x : Int)) = false
    have hne : ns[m]'(Nat.lt_trans hm h1) ≠ x := fun e => by
      have : ns.idxOf x ≤ m := by
        rw [← e]
        exact idx_le _
      omega
    exact beq_eq_false_iff_ne.mpr (by omega)
end

/-- pairs by the places of two names, the first one ahead -/
def ByNames (ns : List Nat) (ps : List (Nat × Nat)) : Prop := ∀ p ∈ ps, ∃ a b : Nat, a < b ∧ ns[a]? = some p.1 ∧ ns[b]? = some p.2
theorem ByNames.acy {ns : List Nat} {n : Nat} {ps : List (Nat × Nat)} (h : ByNames ns ps) (N : Names ns n) : Acy n ps := by
  refine ⟨fun p hp => ?_, ns.idxOf, fun p hp => ?_⟩
  · obtain ⟨a, b, _, ha, hb⟩ := h p hp
    exact ⟨N.lt _ (List.mem_of_getElem? ha), N.lt _ (List.mem_of_getElem? hb)⟩
  · obtain ⟨a, b, hab, ha, hb⟩ := h p hp
    obtain ⟨h1, e1⟩ := List.getElem?_eq_some_iff.mp ha
    obtain ⟨h2, e2⟩ := List.getElem?_eq_some_iff.mp hb
    show ns.idxOf p.1 < ns.idxOf p.2
    rw [← e1, ← e2, N.idx h1, N.idx h2]
    exact hab
theorem ByNames.snoc {ns : List Nat} {ps : List (Nat × Nat)} (h : ByNames ns ps) {a b : Nat} {x y : Nat} (hab : a < b) (ha : ns[a]? = some x) (hb : ns[b]? = some y) : ByNames ns (ps ++ [(x, y)]) := fun p hp => by
  rcases List.mem_append.mp hp with hp | hp
  · exact h p hp
  · rw [List.mem_singleton] at hp
    subst hp
    exact ⟨a, b, hab, ha, hb⟩
section
variable {P : Program} {w : World} {K : PySem.W.Frag} {mg : Str → Option Value} {base : Heap}
abbrev s_law_any_pairs : Stmt := topS 69
abbrev N_law_any_pairs : List Str := ["_law_stream_here", "_law_size", "_law_names", "_law_often", "_law_pairs_here", "_law_low", "_law_high"]
theorem sc_law_any_pairs : FnScope N_law_any_pairs ["_law_stream_here", "_law_size"] (defScope s_law_any_pairs) := ⟨rfl, rfl, rfl, by decide +kernel, rfl, by decide +kernel, by decide +kernel⟩
def spDrawn (K : PySem.W.Frag) (lo hi : Nat) : Sp := fun vs H Q _ => ∃ (s : Addr) (n : Nat), vs = [.ref s, .int n] ∧ Strm H s ∧ lo ≤ n ∧ n ≤ hi ∧ ∀ r ps H', H r = none → Stm s H H' → LA K H' r (psL ps) → Acy n ps → ps.length ≤ 10000 → Q (.ref r) H'
structure IPairs (K : PySem.W.Frag) (H H3 : Hp) (s nm r : Addr) (ns : List Nat) (acc : List V) (ps : List (Nat × Nat)) : Prop where
  st : Stm s H H3
  nms : H3 nm = some (.lst (vN ns))
  g : Grow K H3 r acc (psL ps)
  by_ : ByNames ns ps
theorem d_anypairs (T : Blt mg) (t : TD K mg "_law_any_pairs" s_law_any_pairs) (d__law_draw : Df P w K mg base 1 "_law_draw" spDraw) (d__law_mixed : Df P w K mg base 2 "_law_mixed" (spMixed K)) : Df P w K mg base 3 "_law_any_pairs" (spDrawn K 0 99) := by
  refine df_mk t sc_law_any_pairs (fun _ _ _ _ _ _ us hl => match us, hl with | [_, _], _ => rfl) (fun vs H Q E h => ?_) (fun f cdv A outer s₀ H vs Q E hr h => ?_)
  · obtain ⟨s, n, rfl, _⟩ := h; rfl
  obtain ⟨s, n, rfl, hs, _, hn, q⟩ := h
  refine ⟨_, pss_cons (ps_set (i := 2) sc_law_any_pairs.nd rfl (.inl rfl) (pe_df d__law_mixed hr (by decide) rfl (pa_cons (pv 0) (pa_cons (pe_listRg rfl rfl T.b_list (prg_1 rfl T.b_range (pv 1))) pa_nil))))
      (pss_cons (ps_set (i := 3) sc_law_any_pairs.nd rfl (.inl rfl) (pe_ix (ixK (K := K) rfl) (pe_lst (pa_cons (pe_int) (pa_cons (pe_int) (pa_cons (pe_int) (pa_cons (pe_int) pa_nil))))) (pe_df d__law_draw hr (by decide) rfl (pa_cons (pv 0) (pa_cons (pe_int) pa_nil))) (fun _ _ => rfl)))
      (pss_cons (ps_set (i := 4) sc_law_any_pairs.nd rfl (.inl rfl) (pe_lst pa_nil))
      (pss_cons (ps_for PassesOwn.never rfl (pi_range1 rfl T.b_range (pa_cons (pv 1) pa_nil)) (pg_name (i := 5) sc_law_any_pairs.nd rfl (.inl rfl))
      (pss_one (ps_for PassesOwn.never rfl (pi_range2 rfl T.b_range (pa_cons (pe_op op_add (pv 5) (pe_int)) (pa_cons (pv 1) pa_nil))) (pg_name (i := 6) sc_law_any_pairs.nd rfl (.inl rfl))
      (pss_one (ps_if (pt_cmpR op_eq (pe_df d__law_draw hr (by decide) rfl (pa_cons (pv 0) (pa_cons (pv 3) pa_nil))) (pe_int) (nomark _))
      (pss_one (ps_expr (pe_bm PySem.F.plainAttrs_list PySem.F.slot_list_append PySem.F.type_list_append mt_append (pv 4) (pa_cons (pe_tup (pa_cons (pe_ix (ixK (K := K) rfl) (pv 2) (pv 5) (fun _ _ => rfl)) (pa_cons (pe_ix (ixK (K := K) rfl) (pv 2) (pv 6) (fun _ _ => rfl)) pa_nil))) pa_nil))))
      (pss_nil))))))
      (pss_one (ps_ret (pv 4)))))), ?_⟩
  refine ⟨_, rfl, _, rfl, _, rfl, rg_ok (by omega), fun u nu => ?_⟩
  ktr_call (H1 e1 hu1) nu
  rw [rg_range] at hu1
  refine ⟨s, u, _, rfl, hs.same e1, SqL.of hu1, hs.ne nu, by rw [vN_len, List.length_range]; omega, fun nm ys H2 nnm s2 hnm pm => ?_⟩
  obtain ⟨ns, pm2, rfl⟩ := perm_map pm (ms := List.range n) rfl
  have N := names_of pm2
  have snm : nm ≠ s := (hs.same e1).ne nnm
  refine ⟨sz (by show 4 ≤ 1000000; decide), fun u2 nu2 => ?_⟩
  ktr_call (H3 e3 hu3) nu2
  have su2 : u2 ≠ s := s2.st.ne nu2
  refine ⟨_, rfl, s, 4, rfl, s2.st.same e3, by decide, by decide, fun d H4 hd s4 => ?_⟩
  obtain ⟨o, ho, o0, o9⟩ : ∃ o : Nat, ([V.int 2, V.int 3, V.int 5, V.int 9] : List V)[d]? = some (.int o) ∧ 0 < o ∧ o ≤ 9 := by
    match d, hd with
    | 0, _ => exact ⟨2, rfl, by decide, by decide⟩
    | 1, _ => exact ⟨3, rfl, by decide, by decide⟩
    | 2, _ => exact ⟨5, rfl, by decide, by decide⟩
    | 3, _ => exact ⟨9, rfl, by decide, by decide⟩
  refine .inl ⟨u2, _, d, .int o, rfl, rfl, SqL.of (s4.keep _ _ su2 hu3), atn ho, Nat.zero_le _, fun r nr => ?_⟩
  ktr_call (H5 e5 hr5) nr
  have S5 : Stm s H H5 := (((Stm.of hs e1).trans s2).then e3 |>.trans s4).then e5
  have nr0 : H r = none := (((Stm.of hs e1).trans s2).then e3 |>.trans s4).free nr
  have srs : r ≠ s := s4.st.ne nr
  have hnm5 : H5 nm = some (.lst (vN ns)) := e5 _ _ (s4.keep _ _ snm (e3 _ _ hnm))
  have nmr : nm ≠ r := ne_of_none (s4.keep _ _ snm (e3 _ _ hnm)) nr
  refine ⟨_, rfl, for_r1 (n := n) rfl (by omega) (fun i σ H6 => ∃ v5 v6 acc ps, σ = [some (.ref s), some (.int (n : Nat)), some (.ref nm), some (.int (o : Nat)), some (.ref r), v5, v6] ∧ IPairs K H H6 s nm r ns acc ps ∧ ps.length ≤ i * n) ⟨none, none, [], [], rfl, ⟨S5, hnm5, .nil hr5, fun p hp => by cases hp⟩, Nat.zero_le _⟩ (fun i σ H6 hi hP => ?_) (fun σ H6 hP => ?_)⟩
  · obtain ⟨v5, v6, acc, ps, rfl, I, lp⟩ := hP
    have him : i * n + n ≤ 99 * 99 := by
      have : (i + 1) * n ≤ 99 * 99 := Nat.mul_le_mul (by omega) hn
      rw [Nat.succ_mul] at this
      exact this
    refine ⟨_, rfl, _, _, rfl, rfl, _, rfl, for_r2 (a := i + 1) (b := n) rfl rfl hi (by omega) (fun j σ H7 => ∃ v6 acc ps, σ = [some (.ref s), some (.int (n : Nat)), some (.ref nm), some (.int (o : Nat)), some (.ref r), some (.int (i : Nat)), v6] ∧ IPairs K H H7 s nm r ns acc ps ∧ ps.length ≤ i * n + j) ⟨v6, acc, ps, rfl, I, by omega⟩ (fun j σ H7 hij hj hP => ?_) (fun σ H7 hP => ?_)⟩
    · obtain ⟨v6, acc, ps, rfl, I, lp⟩ := hP
      have hl := I.g.len
      have hl2 : (psL ps).length = ps.length := List.length_map _
      refine ⟨_, rfl, _, rfl, s, o, rfl, I.st.st, o0, by omega, fun d7 H8 hd7 s8 => ⟨rfl, _, rfl, ite2 (fun c => ?_) (fun c => ?_)⟩⟩
      · have g8 := I.g.stm s8 I.st.st srs (noLA_psL ps)
        have nm8 := s8.keep _ _ snm I.nms
        have hin : i < ns.length := by rw [N.len]; exact hi
        have hjn : j < ns.length := by rw [N.len]; exact hj
        refine ⟨_, rfl, .inl ⟨rfl, _, SqL.of g8.at_⟩, _, rfl, _, rfl, .inl ⟨nm, _, i, _, rfl, rfl, SqL.of nm8, atn (vN_at hin), _, rfl, _, rfl, .inl ⟨nm, _, j, _, rfl, rfl, SqL.of nm8, atn (vN_at hjn), sz (by show 2 ≤ 1000000; decide), fun tt nt => ?_⟩⟩⟩
        ktr_call (H9 e9 h9) nt
        have g9 := g8.same e9
        refine ⟨r, acc, .ref tt, rfl, rfl, g9.at_, szl (by omega), ?_⟩
        tbr_iter (HA bA hA)
        refine ⟨some (.int (j : Nat)), acc ++ [.ref tt], ps ++ [(ns[i], ns[j])], rfl, ⟨((I.st.trans s8).then e9).but bA nr0 srs, bA.get nmr (e9 _ _ nm8), ?_, I.by_.snoc (a := i) (b := j) (by omega) (List.getElem?_eq_getElem hin) (List.getElem?_eq_getElem hjn)⟩, by rw [List.length_append, List.length_singleton]; omega⟩
        rw [psL_snoc]
        exact g9.app (dp_pD_mk (p := (ns[i], ns[j])) h9) (.inl rfl) bA hA
      · exact ⟨some (.int (j : Nat)), acc, ps, rfl, ⟨I.st.trans s8, s8.keep _ _ snm I.nms, I.g.stm s8 I.st.st srs (noLA_psL ps), I.by_⟩, by omega⟩
    · obtain ⟨v6, acc, ps, rfl, I, lp⟩ := hP
      exact ⟨some (.int (i : Nat)), v6, acc, ps, rfl, I, by rw [Nat.succ_mul]; exact lp⟩
  · obtain ⟨v5, v6, acc, ps, rfl, I, lp⟩ := hP
    refine ⟨_, rfl, q r ps H6 nr0 I.st I.g.la (I.by_.acy N) ?_⟩
    have : n * n ≤ 99 * 99 := Nat.mul_le_mul hn hn
    omega

abbrev s_law_any_parents : Stmt := topS 78
abbrev N_law_any_parents : List Str := ["_law_stream_here", "_law_size", "_law_names", "_law_parents", "_law_k"]
theorem sc_law_any_parents : FnScope N_law_any_parents ["_law_stream_here", "_law_size"] (defScope s_law_any_parents) := ⟨rfl, rfl, rfl, by decide +kernel, rfl, by decide +kernel, by decide +kernel⟩
def ByPar (ns : List Nat) (os : List (Option Nat)) : Prop := ∀ (k p : Nat), os[k]? = some (some p) → ∃ a b : Nat, a < b ∧ ns[a]? = some p ∧ ns[b]? = some k
def spParents (K : PySem.W.Frag) : Sp := fun vs H Q _ => ∃ (s : Addr) (n : Nat), vs = [.ref s, .int n] ∧ Strm H s ∧ n ≤ 99 ∧ ∀ r os H', H r = none → Stm s H H' → LA K H' r (osL os) → os.length = n → Acy n (byPar os) → Q (.ref r) H'
theorem dpa_os {K : PySem.W.Frag} {H : Hp} (os : List (Option Nat)) : DpAll K H (os.map oV) (osL os) := by
  induction os with
  | nil => exact .nil
  | cons o os ih =>
    refine .cons ?_ ih
    cases o with
    | none => exact .non
    | some p => exact .int p
theorem ByPar.acy {ns : List Nat} {os : List (Option Nat)} {n : Nat} (h : ByPar ns os) (N : Names ns n) : Acy n (byPar os) := by
  refine ByNames.acy (ns := ns) (fun p hp => ?_) N
  unfold byPar at hp
  obtain ⟨k, hk, rfl⟩ := List.mem_map.mp hp
  obtain ⟨h1, h2⟩ := List.mem_filter.mp hk
  rw [List.mem_range] at h1
  obtain ⟨z, hz⟩ := Option.isSome_iff_exists.mp h2
  obtain ⟨a, b, hab, ha, hb⟩ := h k z (by
    rw [List.getElem?_eq_getElem h1]
    have e : os.getD k none = os[k] := by simp [h1]
    rw [← e, hz])
  exact ⟨a, b, hab, by rw [hz]; exact ha, hb⟩
theorem d_anyparents (T : Blt mg) (t : TD K mg "_law_any_parents" s_law_any_parents) (d__law_draw : Df P w K mg base 1 "_law_draw" spDraw) (d__law_mixed : Df P w K mg base 2 "_law_mixed" (spMixed K)) : Df P w K mg base 3 "_law_any_parents" (spParents K) := by
  refine df_mk t sc_law_any_parents (fun _ _ _ _ _ _ us hl => match us, hl with | [_, _], _ => rfl) (fun vs H Q E h => ?_) (fun f cdv A outer s₀ H vs Q E hr h => ?_)
  · obtain ⟨s, n, rfl, _⟩ := h; rfl
  obtain ⟨s, n, rfl, hs, hn, q⟩ := h
  refine ⟨_, pss_cons (ps_set (i := 2) sc_law_any_parents.nd rfl (.inl rfl) (pe_df d__law_mixed hr (by decide) rfl (pa_cons (pv 0) (pa_cons (pe_listRg rfl rfl T.b_list (prg_1 rfl T.b_range (pv 1))) pa_nil))))
      (pss_cons (ps_set (i := 3) sc_law_any_parents.nd rfl (.inl rfl) (pe_op op_rep (pe_lst (pa_cons (pe_non) pa_nil)) (pv 1)))
      (pss_cons (ps_for PassesOwn.never rfl (pi_range2 rfl T.b_range (pa_cons (pe_int) (pa_cons (pv 1) pa_nil))) (pg_name (i := 4) sc_law_any_parents.nd rfl (.inl rfl))
      (pss_one (ps_if (pt_cmpR op_gt (pe_df d__law_draw hr (by decide) rfl (pa_cons (pv 0) (pa_cons (pe_int) pa_nil))) (pe_int) (nomark _))
      (pss_one (ps_asg (pe_ix (ixK (K := K) rfl) (pv 2) (pe_df d__law_draw hr (by decide) rfl (pa_cons (pv 0) (pa_cons (pv 4) pa_nil))) (fun _ _ => rfl)) (pg_sub (pv 3) (pe_ix (ixK (K := K) rfl) (pv 2) (pv 4) (fun _ _ => rfl)) set_list)))
      (pss_nil))))
      (pss_one (ps_ret (pv 3))))), ?_⟩
  refine ⟨_, rfl, _, rfl, _, rfl, rg_ok (by omega), fun u nu => ?_⟩
  ktr_call (H1 e1 hu1) nu
  rw [rg_range] at hu1
  refine ⟨s, u, _, rfl, hs.same e1, SqL.of hu1, hs.ne nu, by rw [vN_len, List.length_range]; omega, fun nm ys H2 nnm s2 hnm pm => ?_⟩
  obtain ⟨ns, pm2, rfl⟩ := perm_map pm (ms := List.range n) rfl
  have N := names_of pm2
  have snm : nm ≠ s := (hs.same e1).ne nnm
  refine ⟨sz (by show 1 ≤ 1000000; decide), fun u2 nu2 => ?_⟩
  ktr_call (H3 e3 hu3) nu2
  refine ⟨_, rfl, u2, (n : Int), [.non], rfl, rfl, hu3, by omega, by omega, sz (by rw [Int.toNat_natCast, List.length_singleton]; omega), fun r nr => ?_⟩
  rw [Int.toNat_natCast, rep_flat]
  ktr_call (H5 e5 hr5) nr
  have S3 : Stm s H H3 := ((Stm.of hs e1).trans s2).then e3
  have nr0 : H r = none := S3.free nr
  have srs : r ≠ s := S3.st.ne nr
  have hnm3 : H3 nm = some (.lst (vN ns)) := e3 _ _ hnm
  have nmr : nm ≠ r := ne_of_none hnm3 nr
  have em : (List.replicate n V.non) = (List.replicate n (none : Option Nat)).map oV := by rw [List.map_replicate]; rfl
  rw [em] at hr5
  refine ⟨_, rfl, ?_⟩
  have fin : ∀ (os : List (Option Nat)) (H6 : Hp) (v4 : Option V), Stm s H H6 → H6 r = some (.lst (os.map oV)) → os.length = n → ByPar ns os → tRet (tVar 3) { nx := fun x H' => Q V.non H', rt := Q, bk := fun _ _ => True, ct := fun _ _ => True } [some (.ref s), some (.int (n : Nat)), some (.ref nm), some (.ref r), v4] H6 :=
    fun os H6 v4 S6 h6 lo B => ⟨_, rfl, q r os H6 nr0 S6 ⟨_, h6, dpa_os os⟩ lo (B.acy N)⟩
  have B0 : ByPar ns (List.replicate n none) := fun k p h => by
    rw [List.getElem?_replicate] at h
    split at h <;> cases h
  by_cases n0 : n = 0
  · subst n0
    refine ⟨1, (0 : Nat), rfl, ⟨by decide, by decide, by decide, by decide⟩, for_range (lo := 1) (n := 0) (fun _ σ H6 => σ = [some (.ref s), some (.int ((0 : Nat) : Int)), some (.ref nm), some (.ref r), none] ∧ H6 = H5) ⟨rfl, rfl⟩ (fun i σ H6 hi => absurd hi (Nat.not_lt_zero _)) (fun σ H6 hP => ?_)⟩
    obtain ⟨rfl, rfl⟩ := hP
    exact ⟨_, rfl, q r (List.replicate 0 none) _ nr0 (S3.then e5) ⟨_, hr5, dpa_os _⟩ (List.length_replicate ..) (B0.acy N)⟩
  refine for_r2 (a := 1) (b := n) rfl rfl (by omega) (by omega) (fun k σ H6 => ∃ v4 os, σ = [some (.ref s), some (.int (n : Nat)), some (.ref nm), some (.ref r), v4] ∧ Stm s H H6 ∧ H6 nm = some (.lst (vN ns)) ∧ H6 r = some (.lst (os.map oV)) ∧ os.length = n ∧ ByPar ns os) ⟨none, _, rfl, S3.then e5, e5 _ _ hnm3, hr5, List.length_replicate .., B0⟩ (fun k σ H6 hk1 hk hP => ?_) (fun σ H6 hP => ?_)
  · obtain ⟨v4, os, rfl, S6, h6n, h6, lo, B⟩ := hP
    refine ⟨_, rfl, s, 5, rfl, S6.st, by decide, by decide, fun d H7 hd s7 => ⟨_, _, rfl, rfl, _, rfl, ite2 (fun c => ?_) (fun c => ?_)⟩⟩
    · have h7n := s7.keep _ _ snm h6n
      have hkn : k < ns.length := by rw [N.len]; exact hk
      refine ⟨_, rfl, _, rfl, _, rfl, s, k, rfl, s7.st, by omega, by omega, fun e H8 he s8 => ?_⟩
      have h8n := s8.keep _ _ snm h7n
      have hen : e < ns.length := by omega
      have hko : ns[k] < os.length := by rw [lo]; exact N.lt _ (List.getElem_mem hkn)
      have h8 := s8.keep _ _ srs (s7.keep _ _ srs h6)
      refine .inl ⟨nm, _, e, _, rfl, rfl, SqL.of h8n, atn (vN_at hen), _, rfl, _, rfl, _, rfl, .inl ⟨nm, _, k, _, rfl, rfl, SqL.of h8n, atn (vN_at hkn), r, _, (ns[k] : Nat), ns[k], rfl, rfl, h8, ixn (by rw [List.length_map]; exact hko), ?_⟩⟩
      tbr_iter (H9 b9 h9)
      refine ⟨some (.int (k : Nat)), os.set ns[k] (some ns[e]), rfl, ((S6.trans s7).trans s8).but b9 nr0 srs, b9.get nmr h8n, by rw [h9, List.map_set]; rfl, by rw [List.length_set]; exact lo, fun k' p h => ?_⟩
      by_cases hkk : k' = ns[k]
      · subst hkk
        rw [List.getElem?_set_self hko] at h
        cases h
        exact ⟨e, k, he, List.getElem?_eq_getElem hen, List.getElem?_eq_getElem hkn⟩
      · rw [List.getElem?_set_ne (Ne.symm hkk)] at h
        exact B k' p h
    · exact ⟨some (.int (k : Nat)), os, rfl, S6.trans s7, s7.keep _ _ snm h6n, s7.keep _ _ srs h6, lo, B⟩
  · obtain ⟨v4, os, rfl, S6, h6n, h6, lo, B⟩ := hP
    exact ⟨_, rfl, q r os H6 nr0 S6 ⟨_, h6, dpa_os os⟩ lo (B.acy N)⟩
end
end K11
set_option maxHeartbeats 4000000

/-! B11: crown, by_rows. -/
namespace K11
open PySem PySem.Spec PyProof.Rows L2
theorem pe_bmK {X : Cx} {K : PySem.W.Frag} {o e : Expr} {es : List Expr} {to : TE} {t : TA} {name : Str} {apos cpos : Pos} {T id : String} {r : V → List V → Hp → VK → Prop} (eK : X.K = K)
    (pa : PlainAttrs T) (slot : Slot T name id) (hty : typeOf (.builtin id) = pure (.type "method_descriptor")) (hm : MtR X id r) (ho : PE X o to) (ha : PA X (e :: es) t)
    (hbase : attributeBase o name X.env (eval o X.env) = eval o X.env := by rfl)
    (hfew : ((backTo cpos (starEach (e :: es) X.env)).all (fun x => !x.1) && (backToKw cpos (keywordEach [] X.env)).all (fun x => x.1.isSome)
      && decide ((e :: es).length + ([] : List Keyword).length + (if ([] : List Keyword).isEmpty then 0 else 1) < 30)) = true := by rfl)
    (hline : (apos.endLine == cpos.line) = true := by rfl) (hs : starEach (e :: es) X.env = (false, eval e X.env) :: starEach es X.env := by rfl) (hplain : (backTo cpos (starEach es X.env)).any (·.1) = false := by rfl) :
    PE X (.Call (.Attribute o name apos) (e :: es) [] cpos) (tBM K T r to t) := eK ▸ pe_bm pa slot hty hm ho ha hbase hfew hline hs hplain
theorem vN_d {ns : List Nat} {i : Nat} (h : i < ns.length) : (vN ns)[i]? = some (.int (ns.getD i 0 : Nat)) := by rw [vN_at h]; simp [h]
theorem get_d {ns : List Nat} {i : Nat} (h : i < ns.length) : ns[i]? = some (ns.getD i 0) := by simp [h]
/-- a list of different numbers below n, n of them, has them all -/
theorem full : ∀ {n : Nat} {ns : List Nat}, ns.Nodup → (∀ x ∈ ns, x < n) → n ≤ ns.length → ∀ x, x < n → x ∈ ns
  | 0, _, _, _, _, x, hx => absurd hx (Nat.not_lt_zero _)
  | n + 1, ns, nd, lt, len, x, hx => by
    have nd' : (ns.erase n).Nodup := nd.erase n
    have ne : ∀ y ∈ ns.erase n, y < n := fun y hy => by
      have h := (nd.mem_erase_iff).mp hy
      have := lt y h.2
      have := h.1
      omega
    have hl : (ns.erase n).length ≤ ns.length := List.length_erase_le
    have hl2 : ns.length - 1 ≤ (ns.erase n).length := List.le_length_erase
    have ih := full nd' ne (by omega)
    by_cases hn : n ∈ ns
    · by_cases e : x = n
      · rw [e]; exact hn
      · exact List.mem_of_mem_erase (ih x (by omega))
    · -- all of ns are below n, more than n of them
      rw [List.erase_of_not_mem hn] at ne nd'
      exfalso
      have key : ∀ (k : Nat) (l : List Nat), l.Nodup → (∀ y ∈ l, y < k) → l.length ≤ k := by
        intro k
        induction k with
        | zero => intro l _ h; cases l with
          | nil => exact Nat.le_refl _
          | cons a l => exact absurd (h a List.mem_cons_self) (Nat.not_lt_zero _)
        | succ k ihk =>
          intro l ndl h
          have h1 : (l.erase k).length ≤ k := ihk (l.erase k) (ndl.erase k) fun y hy => by
            have h2 := (ndl.mem_erase_iff).mp hy
            have := h y h2.2
            have := h2.1
            omega
          have : l.length - 1 ≤ (l.erase k).length := List.le_length_erase
          omega
      have := key n ns nd ne
      omega
theorem Names.all {ns : List Nat} {n x : Nat} (h : Names ns n) (hx : x < n) : x ∈ ns := full h.nd h.lt (by rw [h.len]; exact Nat.le_refl _) x hx
theorem ByNames.more {ns : List Nat} {ps qs : List (Nat × Nat)} (h : ByNames ns ps) (g : ByNames ns qs) : ByNames ns (ps ++ qs) := fun p hp => by
  rcases List.mem_append.mp hp with hp | hp
  · exact h p hp
  · exact g p hp
theorem psL_app (ps qs : List (Nat × Nat)) : psL (ps ++ qs) = psL ps ++ psL qs := by unfold psL; rw [List.map_append]
theorem psL_len (ps : List (Nat × Nat)) : (psL ps).length = ps.length := List.length_map _
section
variable {P : Program} {w : World} {K : PySem.W.Frag} {mg : Str → Option Value} {base : Heap}
abbrev s_law_crown : Stmt := topS 81
abbrev N_law_crown : List Str := ["_law_stream_here", "_law_size", "_law_names", "_law_pairs_here", "_law_k", "_law_low", "_law_high", "_law_j"]
theorem sc_law_crown : FnScope N_law_crown ["_law_stream_here", "_law_size"] (defScope s_law_crown) := ⟨rfl, rfl, rfl, by decide +kernel, rfl, by decide +kernel, by decide +kernel⟩
theorem d_crown (T : Blt mg) (t : TD K mg "_law_crown" s_law_crown) (d__law_draw : Df P w K mg base 1 "_law_draw" spDraw) (d__law_mixed : Df P w K mg base 2 "_law_mixed" (spMixed K)) : Df P w K mg base 3 "_law_crown" (spDrawn K 6 99) := by
  refine df_mk t sc_law_crown (fun _ _ _ _ _ _ us hl => match us, hl with | [_, _], _ => rfl) (fun vs H Q E h => ?_) (fun f cdv A outer s₀ H vs Q E hr h => ?_)
  · obtain ⟨s, n, rfl, _⟩ := h; rfl
  obtain ⟨s, n, rfl, hs, hn6, hn, q⟩ := h
  refine ⟨_, pss_cons (ps_set (i := 2) sc_law_crown.nd rfl (.inr rfl) (pe_df d__law_mixed hr (by decide) rfl (pa_cons (pv 0) (pa_cons (pe_listRg rfl rfl T.b_list (prg_1 rfl T.b_range (pv 1))) pa_nil))))
      (pss_cons (ps_set (i := 3) sc_law_crown.nd rfl (.inl rfl) (pe_lst pa_nil))
      (pss_cons (ps_for PassesOwn.never rfl (pi_range1 rfl T.b_range (pa_cons (pe_int) pa_nil)) (pg_name (i := 4) sc_law_crown.nd rfl (.inr rfl))
      (pss_one (ps_set (i := 3) sc_law_crown.nd rfl (.inl rfl) (pe_op op_cat (pv 3) (pe_lc (own := [("_law_j", 7)]) (g := gName 7) rfl sc_law_crown.nd (pi_range1 rfl T.b_range (pa_cons (pe_int) pa_nil)) (blkOk_by (own := [("_law_j", 7)]) (N := N_law_crown) (sc := defScope s_law_crown) (by decide +kernel)) (fun _ _ _ _ _ => pg_name (i := 7) sc_law_crown.nd rfl (by first | exact .inl rfl | exact .inr rfl)) (fun _ _ _ _ _ => pts_one (pt_cmpR op_ne (pv 7) (pv 4) (nomark _))) (fun _ _ _ _ _ => pe_tup (pa_cons (pe_ix (ixK (K := K) rfl) (pv 2) (pv 4) (fun _ _ => rfl)) (pa_cons (pe_ix (ixK (K := K) rfl) (pv 2) (pe_op op_add (pe_int) (pv 7)) (fun _ _ => rfl)) pa_nil))))))))
      (pss_cons (ps_for PassesOwn.never rfl (pi_range1 rfl T.b_range (pa_cons (pe_int) pa_nil)) (pg_name (i := 5) sc_law_crown.nd rfl (.inl rfl))
      (pss_one (ps_for PassesOwn.never rfl (pi_range2 rfl T.b_range (pa_cons (pe_int) (pa_cons (pv 1) pa_nil))) (pg_name (i := 6) sc_law_crown.nd rfl (.inl rfl))
      (pss_one (ps_if (pt_cmpR op_eq (pe_df d__law_draw hr (by decide) rfl (pa_cons (pv 0) (pa_cons (pe_int) pa_nil))) (pe_int) (nomark _))
      (pss_one (ps_expr (pe_bm PySem.F.plainAttrs_list PySem.F.slot_list_append PySem.F.type_list_append mt_append (pv 3) (pa_cons (pe_tup (pa_cons (pe_ix (ixK (K := K) rfl) (pv 2) (pv 5) (fun _ _ => rfl)) (pa_cons (pe_ix (ixK (K := K) rfl) (pv 2) (pv 6) (fun _ _ => rfl)) pa_nil))) pa_nil))))
      (pss_nil))))))
      (pss_one (ps_ret (pv 3)))))), ?_⟩
  refine ⟨_, rfl, _, rfl, _, rfl, rg_ok (by omega), fun u nu => ?_⟩
  ktr_call (H1 e1 hu1) nu
  rw [rg_range] at hu1
  refine ⟨s, u, _, rfl, hs.same e1, SqL.of hu1, hs.ne nu, by rw [vN_len, List.length_range]; omega, fun nm ys H2 nnm s2 hnm pm => ?_⟩
  obtain ⟨ns, pm2, rfl⟩ := perm_map pm (ms := List.range n) rfl
  have N := names_of pm2
  have lN := N.len
  have snm : nm ≠ s := (hs.same e1).ne nnm
  refine ⟨Nat.zero_le _, fun r nr => ?_⟩
  ktr_call (H3 e3 hr3) nr
  have S3 : Stm s H H3 := ((Stm.of hs e1).trans s2).then e3
  have nr0 : H r = none := ((Stm.of hs e1).trans s2).free nr
  have srs : r ≠ s := s2.st.ne nr
  have hnm3 : H3 nm = some (.lst (vN ns)) := e3 _ _ hnm
  have nmr : nm ≠ r := ne_of_none hnm nr
  refine ⟨3, rfl, by decide, by decide, for_range (lo := 0) (n := 3) (fun i σ H6 => ∃ r v4 ps, σ = [some (.ref s), some (.int (n : Nat)), some (.ref nm), some (.ref r), v4, none, none, none] ∧ Stm s H H6 ∧ H r = none ∧ r ≠ s ∧ nm ≠ r ∧ H6 nm = some (.lst (vN ns)) ∧ LA K H6 r (psL ps) ∧ ByNames ns ps ∧ ps.length ≤ 3 * i) ⟨r, none, [], rfl, S3, nr0, srs, nmr, hnm3, ⟨[], hr3, .nil⟩, fun p hp => (by cases hp), Nat.zero_le _⟩ (fun i σ H6 hi hP => ?_) (fun σ H6 hP => ?_)⟩
  · obtain ⟨r, v4, ps, rfl, S6, nr0, srs, nrm, h6, hL, B, lp⟩ := hP
    rw [Int.zero_add]
    have hl := psL_len ps
    refine turn_cat (n := 3) rfl hL (by omega) (by decide) (fun j => !decide (j = i)) (fun j => pD (ns.getD i 0, ns.getD (3 + j) 0)) (fun R hR => hR) (fun _ => rfl) (fun j H4 R hj s4 hR => ?_) (fun j H4 R hj hp s4 hR => ?_) (fun r' H4 nr' s4 hL' => ?_)
    · refine ⟨_, rfl, _, rfl, rfl, _, rfl, ?_⟩
      rw [dec_int]
      exact hR H4 (.refl _)
    · have hS := SqL.of (K := K) (s4 _ _ h6)
      refine ⟨_, rfl, _, rfl, .inl ⟨nm, _, i, _, rfl, rfl, hS, atn (vN_d (by omega)), _, rfl, _, rfl, _, _, rfl, rfl, .inl ⟨nm, _, ((3 + j : Nat) : Int), _, rfl, rfl, hS, atn (vN_d (by omega)), sz (by show 2 ≤ 1000000; decide), fun t nt => ?_⟩⟩⟩
      exact hR _ _ (same_up nt) (dp_pD_mk (p := (ns.getD i 0, ns.getD (3 + j) 0)) upd_same) (.inl rfl)
    · have el : (((List.range 3).filter fun j => !decide (j = i)).map fun j => pD (ns.getD i 0, ns.getD (3 + j) 0)) = psL (((List.range 3).filter fun j => !decide (j = i)).map fun j => (ns.getD i 0, ns.getD (3 + j) 0)) := by
        unfold psL
        rw [List.map_map]
        rfl
      rw [el, ← psL_app] at hL'
      refine ⟨r', some (.int (i : Nat)), _, rfl, S6.then s4, S6.free nr', S6.st.ne nr', ne_of_none h6 nr', s4 _ _ h6, hL', B.more fun p hp => ?_, ?_⟩
      · obtain ⟨j, hj, rfl⟩ := List.mem_map.mp hp
        have hj3 := List.mem_range.mp (List.mem_filter.mp hj).1
        exact ⟨i, 3 + j, by omega, get_d (by omega), get_d (by omega)⟩
      · have := List.length_filter_le (fun j => !decide (j = i)) (List.range 3)
        rw [List.length_range] at this
        rw [List.length_append, List.length_map]
        omega
  obtain ⟨r, v4, ps, rfl, S6, nr0, srs, nrm, h6, hL, B, lp⟩ := hP
  obtain ⟨acc, G⟩ := hL.grow (noLA_psL ps)
  refine ⟨6, rfl, by decide, by decide, for_range (lo := 0) (n := 6) (fun i σ H6 => ∃ v5 v6 acc ps, σ = [some (.ref s), some (.int (n : Nat)), some (.ref nm), some (.ref r), v4, v5, v6, none] ∧ IPairs K H H6 s nm r ns acc ps ∧ ps.length ≤ 9 + i * n) ⟨none, none, acc, ps, rfl, ⟨S6, h6, G, B⟩, by omega⟩ (fun i σ H6 hi hP => ?_) (fun σ H6 hP => ?_)⟩
  · obtain ⟨v5, v6, acc, ps, rfl, I, lp⟩ := hP
    rw [Int.zero_add]
    have him : i * n + n ≤ 6 * 99 := by
      have : (i + 1) * n ≤ 6 * 99 := Nat.mul_le_mul (by omega) hn
      rw [Nat.succ_mul] at this
      exact this
    refine ⟨_, rfl, for_r2 (a := 6) (b := n) rfl rfl hn6 (by omega) (fun j σ H7 => ∃ v6 acc ps, σ = [some (.ref s), some (.int (n : Nat)), some (.ref nm), some (.ref r), v4, some (.int (i : Nat)), v6, none] ∧ IPairs K H H7 s nm r ns acc ps ∧ ps.length ≤ 9 + i * n + j) ⟨v6, acc, ps, rfl, I, by omega⟩ (fun j σ H7 hij hj hP => ?_) (fun σ H7 hP => ?_)⟩
    · obtain ⟨v6, acc, ps, rfl, I, lp⟩ := hP
      have hl := I.g.len
      have hl2 := psL_len ps
      refine ⟨_, rfl, s, 4, rfl, I.st.st, by decide, by decide, fun d7 H8 hd7 s8 => ⟨rfl, _, rfl, ite2 (fun c => ?_) (fun c => ?_)⟩⟩
      · have g8 := I.g.stm s8 I.st.st srs (noLA_psL ps)
        have nm8 := s8.keep _ _ snm I.nms
        refine ⟨_, rfl, .inl ⟨rfl, _, SqL.of g8.at_⟩, _, rfl, _, rfl, .inl ⟨nm, _, i, _, rfl, rfl, SqL.of nm8, atn (vN_d (by omega)), _, rfl, _, rfl, .inl ⟨nm, _, j, _, rfl, rfl, SqL.of nm8, atn (vN_d (by omega)), sz (by show 2 ≤ 1000000; decide), fun tt nt => ?_⟩⟩⟩
        ktr_call (H9 e9 h9) nt
        have g9 := g8.same e9
        refine ⟨r, acc, .ref tt, rfl, rfl, g9.at_, szl (by omega), ?_⟩
        tbr_iter (HA bA hA)
        refine ⟨some (.int (j : Nat)), acc ++ [.ref tt], ps ++ [(ns.getD i 0, ns.getD j 0)], rfl, ⟨((I.st.trans s8).then e9).but bA nr0 srs, bA.get nrm (e9 _ _ nm8), ?_, I.by_.snoc (a := i) (b := j) (by omega) (get_d (by omega)) (get_d (by omega))⟩, by rw [List.length_append, List.length_singleton]; omega⟩
        rw [psL_snoc]
        exact g9.app (dp_pD_mk (p := (ns.getD i 0, ns.getD j 0)) h9) (.inl rfl) bA hA
      · exact ⟨some (.int (j : Nat)), acc, ps, rfl, ⟨I.st.trans s8, s8.keep _ _ snm I.nms, I.g.stm s8 I.st.st srs (noLA_psL ps), I.by_⟩, by omega⟩
    · obtain ⟨v6, acc, ps, rfl, I, lp⟩ := hP
      exact ⟨some (.int (i : Nat)), v6, acc, ps, rfl, I, by rw [Nat.succ_mul]; omega⟩
  · obtain ⟨v5, v6, acc, ps, rfl, I, lp⟩ := hP
    refine ⟨_, rfl, q r ps H6 nr0 I.st I.g.la (I.by_.acy N) ?_⟩
    omega

abbrev s_law_by_rows : Stmt := topS 72
abbrev N_law_by_rows : List Str := ["_law_one", "_law_other", "_law_found", "_law_at", "_law_high"]
theorem sc_law_by_rows : FnScope N_law_by_rows ["_law_one", "_law_other"] (defScope s_law_by_rows) := ⟨rfl, rfl, rfl, by decide +kernel, rfl, by decide +kernel, by decide +kernel⟩
def spByRows (K : PySem.W.Frag) : Sp := fun vs H Q _ => ∃ (a b : Addr) (n : Nat) (ns ms : List Nat), vs = [.ref a, .ref b] ∧ SqL K H a (vN ns) ∧ SqL K H b (vN ms) ∧ Names ns n ∧ Names ms n ∧ n ≤ 99 ∧ ∀ r ps H', H r = none → Same H H' → LA K H' r (psL ps) → Acy n ps → ps.length ≤ 10000 → Q (.ref r) H'
theorem cut_names (ns : List Nat) (i : Nat) : cutV (vN ns) (some ((i + 1 : Nat) : Int)) none = vN (ns.drop (i + 1)) := by
  rw [cutV_drop]
  unfold vN
  rw [List.map_drop]
theorem d_byrows (T : Blt mg) (t : TD K mg "_law_by_rows" s_law_by_rows) : Df P w K mg base 1 "_law_by_rows" (spByRows K) := by
  refine df_mk t sc_law_by_rows (fun _ _ _ _ _ _ us hl => match us, hl with | [_, _], _ => rfl) (fun vs H Q E h => ?_) (fun f cdv A outer s₀ H vs Q E hr h => ?_)
  · obtain ⟨a, b, n, ns, ms, rfl, _⟩ := h; rfl
  obtain ⟨a, b, n, ns, ms, rfl, ha, hb, N, M, hn, q⟩ := h
  refine ⟨_, pss_cons (ps_set (i := 2) sc_law_by_rows.nd rfl (.inl rfl) (pe_lst pa_nil))
      (pss_cons (ps_for PassesOwn.never rfl (pi_range1 rfl T.b_range (pa_cons (pe_callB (lenK (K := K) rfl) rfl T.b_len (by decide +kernel) (pa_cons (pv 0) pa_nil)) pa_nil)) (pg_name (i := 3) sc_law_by_rows.nd rfl (.inr rfl))
      (pss_one (ps_set (i := 2) sc_law_by_rows.nd rfl (.inl rfl) (pe_op op_cat (pv 2) (pe_lc (own := [("_law_high", 4)]) (g := gName 4) rfl sc_law_by_rows.nd (pi_list (pe_slice (slLK (K := K) rfl) (pv 0) (po_some (pe_op op_add (pv 3) (pe_int))) po_none)) (blkOk_by (own := [("_law_high", 4)]) (N := N_law_by_rows) (sc := defScope s_law_by_rows) (by decide +kernel)) (fun _ _ _ _ _ => pg_name (i := 4) sc_law_by_rows.nd rfl (by first | exact .inl rfl | exact .inr rfl)) (fun _ _ _ _ _ => pts_one (pt_cmpR op_lt (pe_bmK (K := K) rfl PySem.F.plainAttrs_list PySem.F.slot_list_index PySem.F.type_list_index (idxK (K := K) rfl) (pv 1) (pa_cons (pe_ix (ixK (K := K) rfl) (pv 0) (pv 3) (fun _ _ => rfl)) pa_nil)) (pe_bmK (K := K) rfl PySem.F.plainAttrs_list PySem.F.slot_list_index PySem.F.type_list_index (idxK (K := K) rfl) (pv 1) (pa_cons (pv 4) pa_nil)) (nomark _))) (fun _ _ _ _ _ => pe_tup (pa_cons (pe_ix (ixK (K := K) rfl) (pv 0) (pv 3) (fun _ _ => rfl)) (pa_cons (pv 4) pa_nil))))))))
      (pss_one (ps_ret (pv 2)))), ?_⟩
  have lN := N.len
  have lM := M.len
  have inM : ∀ x, x < n → x ∈ ms := fun x hx => M.all hx
  refine ⟨Nat.zero_le _, fun r nr => ?_⟩
  ktr_call (H1 e1 hr1) nr
  refine ⟨_, rfl, a, _, rfl, .inl (e1.seq ha), for_r1 (n := n) (by rw [vN_len, lN]) (by omega) (fun i σ H3 => ∃ r v3 ps, σ = [some (.ref a), some (.ref b), some (.ref r), v3, none] ∧ Same H H3 ∧ H r = none ∧ LA K H3 r (psL ps) ∧ ByNames ns ps ∧ ps.length ≤ i * n) ⟨r, none, [], rfl, e1, nr, ⟨_, hr1, .nil⟩, fun p hp => (by cases hp), Nat.zero_le _⟩ (fun i σ H3 hi hP => ?_) (fun σ H3 hP => ?_)⟩
  · obtain ⟨r, v3, ps, rfl, s3, nr, hL, B, lp⟩ := hP
    have hb2 : i * n ≤ 99 * 99 := Nat.mul_le_mul (by omega) hn
    have hl := psL_len ps
    have ld : (ns.drop (i + 1)).length ≤ 99 := by rw [List.length_drop]; omega
    have hx : ns.getD i 0 < n := by
      have e : ns.getD i 0 = ns[i]'(by omega) := by simp [show i < ns.length by omega]
      rw [e]
      exact N.lt _ (List.getElem_mem _)
    have fz : ∀ x ∈ ns.drop (i + 1), x ∈ ms := fun x hx => inM x (N.lt _ (List.mem_of_mem_drop hx))
    refine cat_then (zs := ((isL (ns.drop (i + 1))).filter fun d => decide (ms.idxOf (ns.getD i 0) < ms.idxOf (toN d))).map fun d => pD (ns.getD i 0, toN d)) rfl hL ?_ (fun R hR => ?_) (fun r' H4 nr' s4 hL' => ?_)
    · rw [List.length_map]
      have := List.length_filter_le (fun d => decide (ms.idxOf (ns.getD i 0) < ms.idxOf (toN d))) (isL (ns.drop (i + 1)))
      have e : (isL (ns.drop (i + 1))).length = (ns.drop (i + 1)).length := List.length_map _
      omega
    · refine ⟨_, rfl, _, rfl, _, _, rfl, rfl, _, rfl, a, _, rfl, s3.seq ha, fun u nu => ?_⟩
      show _
      rw [show ((i : Int) + 1) = ((i + 1 : Nat) : Int) from rfl, cut_names]
      ktr_call (H4 s4 h4) nu
      refine lc_ld (K := K) (ds := isL (ns.drop (i + 1))) (by rw [vN_len]; omega) (SqL.of h4) (dpa_isL _) (fun d => decide (ms.idxOf (ns.getD i 0) < ms.idxOf (toN d))) (fun d => pD (ns.getD i 0, toN d)) (fun x => [some (.ref a), some (.ref b), some (.ref r), some (.int (i : Nat)), some x]) (fun x H R h => h) (fun x => rfl) (fun x d H5 R hd hxd s5 hR => ?_) (fun x d H5 R hd hxd _ s5 hR => ?_) (fun L H5 nL s5 hL5 => hR L H5 (s4.trans s5) hL5)
      · obtain ⟨z, hz, rfl⟩ := List.mem_map.mp hd
        cases dp_int hxd
        have a5 := (s3.trans (s4.trans s5)).seq ha
        have b5 := (s3.trans (s4.trans s5)).seq hb
        refine ⟨_, rfl, .inl ⟨rfl, _, b5⟩, _, rfl, _, rfl, .inl ⟨a, _, i, _, rfl, rfl, a5, atn (vN_d (by omega)), ?_⟩⟩
        unfold tNil
        refine idx_at b5 (inM _ hx) ?_
        refine ⟨_, rfl, .inl ⟨rfl, _, b5⟩, _, rfl, ?_⟩
        refine idx_at b5 (fz z hz) ?_
        refine ⟨_, _, rfl, rfl, _, rfl, ?_⟩
        rw [dec_lt]
        exact hR H5 (.refl _)
      · obtain ⟨z, hz, rfl⟩ := List.mem_map.mp hd
        cases dp_int hxd
        have a5 := (s3.trans (s4.trans s5)).seq ha
        refine ⟨_, rfl, _, rfl, .inl ⟨a, _, i, _, rfl, rfl, a5, atn (vN_d (by omega)), _, rfl, sz (by show 2 ≤ 1000000; decide), fun t nt => ?_⟩⟩
        exact hR _ _ (same_up nt) (dp_pD_mk (p := (ns.getD i 0, z)) upd_same) (.inl rfl)
    · have el : (((isL (ns.drop (i + 1))).filter fun d => decide (ms.idxOf (ns.getD i 0) < ms.idxOf (toN d))).map fun d => pD (ns.getD i 0, toN d)) = psL (((ns.drop (i + 1)).filter fun z => decide (ms.idxOf (ns.getD i 0) < ms.idxOf z)).map fun z => (ns.getD i 0, z)) := by
        unfold psL isL
        rw [List.filter_map, List.map_map, List.map_map]
        rfl
      rw [el, ← psL_app] at hL'
      refine ⟨r', _, _, rfl, s3.trans s4, s3.free nr', hL', B.more fun p hp => ?_, ?_⟩
      · obtain ⟨z, hz, rfl⟩ := List.mem_map.mp hp
        have hz := (List.mem_filter.mp hz).1
        obtain ⟨k, hk, rfl⟩ := List.getElem_of_mem hz
        rw [List.length_drop] at hk
        refine ⟨i, i + 1 + k, by omega, get_d (by omega), ?_⟩
        rw [List.getElem_drop]
        exact List.getElem?_eq_getElem _
      · have := List.length_filter_le (fun z => decide (ms.idxOf (ns.getD i 0) < ms.idxOf z)) (ns.drop (i + 1))
        rw [List.length_drop] at this
        rw [List.length_append, List.length_map, Nat.succ_mul]
        omega
  · obtain ⟨r, v3, ps, rfl, s3, nr, hL, B, lp⟩ := hP
    have : n * n ≤ 99 * 99 := Nat.mul_le_mul hn hn
    exact ⟨_, rfl, q r ps H3 nr s3 hL (B.acy N) (by omega)⟩
end
end K11
set_option maxHeartbeats 4000000

/-! B12: trees. -/
namespace K11
open PySem PySem.Spec PyProof.Rows L2
/-- a tree of depth at most m, with its members from the left -/
inductive IsT : Nat → PyData → List Nat → Prop
  | one (m e : Nat) : IsT (m + 1) (.tuple [.str "one", iD e]) [e]
  | node (m : Nat) (w : Str) (ds : List PyData) (nss : List (List Nat)) (hw : w = "beside" ∨ w = "above") (hl : ds.length = nss.length) (h : ∀ (i : Nat) d ns, ds[i]? = some d → nss[i]? = some ns → IsT m d ns) :
    IsT (m + 1) (.tuple [.str w, .tuple ds]) nss.flatten
theorem IsT.noL {m : Nat} {d : PyData} {ns : List Nat} (h : IsT m d ns) : noL d = true := by
  induction h with
  | one m e => rfl
  | node m w ds nss hw hl h ih =>
    have : noLA ds = true := noLA_all fun d hd => by
      obtain ⟨i, hi, rfl⟩ := List.getElem_of_mem hd
      exact ih i ds[i] (nss[i]'(by omega)) (List.getElem?_eq_getElem hi) (List.getElem?_eq_getElem (by omega))
    show noLA [.str w, .tuple ds] = true
    rw [noLA, noLA, K11.noL, K11.noL, this]
    rfl
theorem cut_take (ns : List Nat) (i : Nat) : cutV (vN ns) none (some (i : Int)) = vN (ns.take i) := by
  rw [cutV_take]
  unfold vN
  rw [List.map_take]
theorem cut_drop (ns : List Nat) (i : Nat) : cutV (vN ns) (some (i : Int)) none = vN (ns.drop i) := by
  rw [cutV_drop]
  unfold vN
  rw [List.map_drop]
/-- a list of lists, none of them the stream or the list itself -/
structure Parts (H : Hp) (s p : Addr) (rs : List Addr) (pts : List (List Nat)) : Prop where
  top : H p = some (.lst (rs.map V.ref))
  len : rs.length = pts.length
  at_ : ∀ (i : Nat) r pt, rs[i]? = some r → pts[i]? = some pt → H r = some (.lst (vN pt)) ∧ r ≠ s ∧ r ≠ p
section
variable {H H' : Hp} {s p : Addr} {rs : List Addr} {pts : List (List Nat)}
theorem Parts.stm (P : Parts H s p rs pts) (e : Stm s H H') (n : p ≠ s) : Parts H' s p rs pts :=
  ⟨e.keep _ _ n P.top, P.len, fun i r pt h1 h2 => ⟨e.keep _ _ (P.at_ i r pt h1 h2).2.1 (P.at_ i r pt h1 h2).1, (P.at_ i r pt h1 h2).2⟩⟩
theorem Parts.same (P : Parts H s p rs pts) (e : Same H H') : Parts H' s p rs pts :=
  ⟨e _ _ P.top, P.len, fun i r pt h1 h2 => ⟨e _ _ (P.at_ i r pt h1 h2).1, (P.at_ i r pt h1 h2).2⟩⟩
theorem Parts.app (P : Parts H s p rs pts) {r : Addr} {pt : List Nat} (h : H r = some (.lst (vN pt))) (n : r ≠ s) (np : r ≠ p) (b : But p H H') (hp : H' p = some (.lst (rs.map V.ref ++ [.ref r]))) : Parts H' s p (rs ++ [r]) (pts ++ [pt]) := by
  refine ⟨by rw [hp, List.map_append]; rfl, by rw [List.length_append, List.length_append, P.len]; rfl, fun i r' pt' h1 h2 => ?_⟩
  have l := P.len
  by_cases hi : i < rs.length
  · rw [List.getElem?_append_left hi] at h1
    rw [List.getElem?_append_left (by omega)] at h2
    obtain ⟨a, c, d⟩ := P.at_ i r' pt' h1 h2
    exact ⟨b.get d a, c, d⟩
  · rw [List.getElem?_append_right (by omega)] at h1
    rw [List.getElem?_append_right (by omega)] at h2
    rw [l] at h1
    cases hk : i - pts.length with
    | zero =>
      rw [hk] at h1 h2
      simp at h1 h2
      subst h1 h2
      exact ⟨b.get np h, n, np⟩
    | succ k => rw [hk] at h1; simp at h1
end
section
variable {P : Program} {w : World} {K : PySem.W.Frag} {mg : Str → Option Value} {base : Heap}
abbrev s_law_any_tree : Stmt := topS 73
abbrev N_law_any_tree : List Str := ["_law_stream_here", "_law_members_here", "_law_word", "_law_parts", "_law_rest", "_law_k", "_law_many", "_law_following", "_law_branch"]
theorem sc_law_any_tree : FnScope N_law_any_tree ["_law_stream_here", "_law_members_here", "_law_word"] (defScope s_law_any_tree) := ⟨rfl, rfl, rfl, by decide +kernel, rfl, by decide +kernel, by decide +kernel⟩
def spTree (K : PySem.W.Frag) (m : Nat) : Sp := fun vs H Q _ => ∃ (s a : Addr) (w : Str) (ns : List Nat), vs = [.ref s, .ref a, .str w] ∧ Strm H s ∧ SqL K H a (vN ns) ∧ a ≠ s ∧ 0 < ns.length ∧ ns.length ≤ m ∧ ns.length ≤ 1000 ∧ (w = "beside" ∨ w = "above") ∧
  ∀ v d H', Stm s H H' → Dp K H' v d → IsT m d ns → Q v H'
def TrInv (s a : Addr) (w : Str) (p : Addr) (n : Nat) (ns : List Nat) (H : Hp) (k : Nat) (σ : L2.St) (H3 : Hp) : Prop := ∃ rr v5 v6 rs pts rest, σ = [some (.ref s), some (.ref a), some (.str w), some (.ref p), some (.ref rr), v5, v6, none, none] ∧ Stm s H H3 ∧ Parts H3 s p rs pts ∧ H3 rr = some (.lst (vN rest)) ∧ rr ≠ s ∧ rr ≠ p ∧ pts.flatten ++ rest = ns ∧ rest.length + k ≤ n ∧ (k = 0 → rest.length = n) ∧ pts.length ≤ k ∧ ∀ pt ∈ pts, 0 < pt.length ∧ pt.length < n
theorem d_anytree (T : Blt mg) (t : TD K mg "_law_any_tree" s_law_any_tree) (d__law_draw : Df P w K mg base 1 "_law_draw" spDraw) : ∀ m : Nat, Df P w K mg base (m + 2) "_law_any_tree" (spTree K m)
  | 0 => by
    refine df_mk t sc_law_any_tree (fun _ _ _ _ _ _ us hl => match us, hl with | [_, _, _], _ => rfl) (fun vs H Q E h => ?_) (fun f cdv A outer s₀ H vs Q E hr h => ?_)
    · obtain ⟨s, a, w, ns, rfl, _⟩ := h; rfl
    · obtain ⟨s, a, w, ns, rfl, _, _, _, h1, h2, _⟩ := h
      omega
  | m + 1 => by
    have d__law_any_tree := d_anytree T t d__law_draw m
    refine df_mk t sc_law_any_tree (fun _ _ _ _ _ _ us hl => match us, hl with | [_, _, _], _ => rfl) (fun vs H Q E h => ?_) (fun f cdv A outer s₀ H vs Q E hr h => ?_)
    · obtain ⟨s, a, w, ns, rfl, _⟩ := h; rfl
    obtain ⟨s, a, w, ns, rfl, hs, hS, nas, l0, lm, l1, hw, q⟩ := h
    refine ⟨_, pss_cons (ps_if (pt_cmpR op_eq (pe_callB (lenK (K := K) rfl) rfl T.b_len (by decide +kernel) (pa_cons (pv 1) pa_nil)) (pe_int) (nomark _))
      (pss_one (ps_ret (pe_tup (pa_cons (pe_str) (pa_cons (pe_ix (ixK (K := K) rfl) (pv 1) (pe_int) (fun _ _ => rfl)) pa_nil)))))
      (pss_nil))
      (pss_cons (ps_set (i := 3) sc_law_any_tree.nd rfl (.inl rfl) (pe_lst pa_nil))
      (pss_cons (ps_set (i := 4) sc_law_any_tree.nd rfl (.inl rfl) (pe_callTy (lstK (K := K) rfl) rfl T.b_list (by decide +kernel) (pa_cons (pv 1) pa_nil)))
      (pss_cons (ps_for PassesOwn.never rfl (pi_range1 rfl T.b_range (pa_cons (pe_callB (lenK (K := K) rfl) rfl T.b_len (by decide +kernel) (pa_cons (pv 1) pa_nil)) pa_nil)) (pg_name (i := 5) sc_law_any_tree.nd rfl (.inl rfl))
      (pss_one (ps_if (pt_cmpR op_gt (pe_callB (lenK (K := K) rfl) rfl T.b_len (by decide +kernel) (pa_cons (pv 4) pa_nil)) (pe_int) (nomark _))
      (pss_cons (ps_set (i := 6) sc_law_any_tree.nd rfl (.inl rfl) (pe_op op_add (pe_int) (pe_df d__law_draw hr (by omega) rfl (pa_cons (pv 0) (pa_cons (pe_callB (lenK (K := K) rfl) rfl T.b_len (by decide +kernel) (pa_cons (pv 4) pa_nil)) pa_nil)))))
      (pss_cons (ps_if (PW.pt (pw_and (pt_cmpR op_eq (pv 5) (pe_int) (nomark _)) (pw_and1 (pt_cmpR op_eq (pv 6) (pe_callB (lenK (K := K) rfl) rfl T.b_len (by decide +kernel) (pa_cons (pv 4) pa_nil)) (nomark _)))))
      (pss_one (ps_set (i := 6) sc_law_any_tree.nd rfl (.inl rfl) (pe_callB (call_max2 rfl) rfl T.b_max (by decide +kernel) (pa_cons (pe_int) (pa_cons (pe_op op_sub (pv 6) (pe_int)) pa_nil)))))
      (pss_nil))
      (pss_cons (ps_expr (pe_bm PySem.F.plainAttrs_list PySem.F.slot_list_append PySem.F.type_list_append mt_append (pv 3) (pa_cons (pe_slice (slLK (K := K) rfl) (pv 4) po_none (po_some (pv 6))) pa_nil)))
      (pss_one (ps_set (i := 4) sc_law_any_tree.nd rfl (.inl rfl) (pe_slice (slLK (K := K) rfl) (pv 4) (po_some (pv 6)) po_none))))))
      (pss_nil))))
      (pss_cons (ps_set (i := 7) sc_law_any_tree.nd rfl (.inr rfl) (pe_ix (ixK (K := K) rfl) (pe_lst (pa_cons (pe_str) (pa_cons (pe_str) pa_nil))) (pe_callTy call_int1 rfl T.b_int (by decide +kernel) (pa_cons (pe_cmpR op_eq (pv 2) (pe_str) (nomark _)) pa_nil)) (fun _ _ => rfl)))
      (pss_one (ps_ret (pe_tup (pa_cons (pv 2) (pa_cons (pe_callTy (tupK (K := K) rfl) rfl T.b_tuple (by decide +kernel) (pa_cons (pe_lc (own := [("_law_branch", 8)]) (g := gName 8) rfl sc_law_any_tree.nd (pi_list (pv 3)) (blkOk_by (own := [("_law_branch", 8)]) (N := N_law_any_tree) (sc := defScope s_law_any_tree) (by decide +kernel)) (fun _ _ _ _ _ => pg_name (i := 8) sc_law_any_tree.nd rfl (by first | exact .inl rfl | exact .inr rfl)) (fun _ _ _ _ _ => pts_nil) (fun _ _ _ _ _ => pe_df d__law_any_tree hr (by omega) rfl (pa_cons (pv 0) (pa_cons (pv 8) (pa_cons (pv 7) pa_nil))))) pa_nil)) pa_nil))))))))), ?_⟩
    generalize hn : ns.length = n at l0 lm l1
    refine ⟨_, rfl, a, _, rfl, .inl hS, rfl, _, rfl, ite2 (fun c => ?_) (fun c => ?_)⟩
    · rw [vN_len] at c
      have c : n = 1 := by
        have := V.int.inj (of_decide_eq_true c)
        omega
      obtain ⟨e, rfl⟩ : ∃ e, ns = [e] := List.length_eq_one_iff.mp (by omega)
      · refine ⟨_, rfl, .inl ⟨a, _, (0 : Nat), _, rfl, rfl, hS, atn (i := 0) rfl, sz (by show 2 ≤ 1000000; decide), fun t nt => ?_⟩⟩
        ktr_call (H1 e1 h1) nt
        exact q _ _ H1 (Stm.of hs e1) (.tup (SqT.of h1) (.cons (.str _) (.cons (.int _) .nil))) (.one m e)
    have n2 : 2 ≤ n := by
      rcases Nat.lt_or_ge n 2 with h | h
      · have : n = 1 := by omega
        rw [vN_len, hn, this] at c
        exact absurd (decide_eq_true rfl) c
      · exact h
    refine ⟨Nat.zero_le _, fun p np => ?_⟩
    ktr_call (H1 e1 hp1) np
    refine ⟨_, rfl, a, _, rfl, .inl (e1.seq hS), fun r nr => ?_⟩
    ktr_call (H2 e2 hr2) nr
    have s2 : Stm s H H2 := (Stm.of hs e1).then e2
    have nps := hs.ne np
    have nrs := (Stm.of hs e1).st.ne nr
    have nrp : r ≠ p := (ne_of_none hp1 nr).symm
    refine ⟨_, rfl, a, _, rfl, .inl (e2.seq (e1.seq hS)), for_r1 (n := n) (by rw [vN_len, hn]) (by omega) (TrInv s a w p n ns H) ⟨r, none, none, [], [], ns, rfl, s2, ⟨e2 _ _ hp1, rfl, fun i r pt h => by simp at h⟩, hr2, nrs, nrp, rfl, by omega, fun _ => hn, Nat.zero_le _, fun pt h => by cases h⟩ (fun k σ H3 hk hP => ?_) (fun σ H3 hP => ?_)⟩
    · obtain ⟨rr, v5, v6, rs, pts, rest, rfl, s3, PP, hrr, nrrs, nrrp, fl, lr, lr0, lpk, hpts⟩ := hP
      refine ⟨_, rfl, rr, _, rfl, .inl (SqL.of hrr), _, _, rfl, rfl, _, rfl, ite2 (fun c => ?_) (fun c => ?_)⟩
      · rw [vN_len] at c
        have c : 0 < rest.length := by have := of_decide_eq_true c; omega
        refine ⟨_, rfl, _, rfl, rr, _, rfl, .inl (SqL.of hrr), s, rest.length, by rw [vN_len]; rfl, s3.st, c, by omega, fun d H4 hd s4 => ⟨_, _, rfl, rfl, ?_⟩⟩
        have PP4 := PP.stm s4 nps
        have hrr4 := s4.keep _ _ nrrs hrr
        have s34 := s3.trans s4
        -- what follows, the number known
        have fin : ∀ (mm : Nat) (D : Ends), D.nx = TrInv s a w p n ns H (k + 1) → 1 ≤ mm → mm ≤ rest.length → mm < n →
            tSeq (tDrop (tBM K "list" rAppend (tVar 3) (tCons (tSl (rSlL K) (tVar 4) tNoPart (tPart (tVar 6))) tNil))) (tAsg (tSl (rSlL K) (tVar 4) (tPart (tVar 6)) tNoPart) (gName 4)) D [some (.ref s), some (.ref a), some (.str w), some (.ref p), some (.ref rr), some (.int (k : Nat)), some (.int (mm : Nat)), none, none] H4 := by
          intro mm D eD h1 h2 h3
          refine ⟨_, rfl, .inl ⟨rfl, _, SqL.of PP4.top⟩, _, rfl, _, rfl, _, rfl, rr, _, rfl, SqL.of hrr4, fun u nu => ?_⟩
          rw [cut_take]
          ktr_call (H5 e5 h5) nu
          have PP5 := PP4.same e5
          refine ⟨p, _, .ref u, rfl, rfl, PP5.top, szl (by rw [List.length_map, PP5.len]; omega), ?_⟩
          tbr_iter (H6 b6 h6)
          have nus : u ≠ s := s4.st.ne nu
          have nup : u ≠ p := (ne_of_none PP4.top nu).symm
          have PP6 := PP5.app h5 nus nup b6 h6
          have s6 : Stm s H H6 := (s34.then e5).but b6 np nps
          have hrr6 := b6.get nrrp (e5 _ _ hrr4)
          refine ⟨_, rfl, _, rfl, _, rfl, rr, _, rfl, SqL.of hrr6, fun v nv => ?_⟩
          rw [cut_drop]
          ktr_call (H7 e7 h7) nv
          show D.nx _ H7
          rw [eD]
          refine ⟨v, _, _, rs ++ [u], pts ++ [rest.take mm], rest.drop mm, rfl, s6.then e7, PP6.same e7, h7, s6.st.ne nv, (ne_of_none PP6.top nv).symm, ?_, ?_, fun h => by omega, by rw [List.length_append, List.length_singleton]; omega, fun pt hpt => ?_⟩
          · rw [List.flatten_append, List.flatten_singleton, List.append_assoc, List.take_append_drop]
            exact fl
          · rw [List.length_drop]; omega
          · rcases List.mem_append.mp hpt with h | h
            · exact hpts pt h
            · rw [List.mem_singleton] at h
              rw [h, List.length_take]
              omega
        refine ⟨_, rfl, rfl, _, rfl, ite2 (fun c1 => ⟨_, rfl, _, rfl, rr, _, rfl, .inl (SqL.of hrr4), rfl, _, rfl, ite2 (fun c2 => ?_) (fun c2 => ?_)⟩) (fun c1 => ?_)⟩
        · have k0 : k = 0 := by have := V.int.inj (of_decide_eq_true c1); omega
          rw [vN_len] at c2
          have e1 : 1 + d = rest.length := by have := V.int.inj (of_decide_eq_true c2); omega
          have lr0 := lr0 k0
          refine ⟨_, rfl, _, _, rfl, rfl, _, _, rfl, ?_⟩
          have em : (if ((1 : Int) + (d : Int) - 1) > 1 then ((1 : Int) + (d : Int) - 1) else 1) = ((n - 1 : Nat) : Int) := by
            split <;> omega
          rw [em]
          exact fin (n - 1) _ (by exact rfl) (by omega) (by omega) (by omega)
        · refine fin (1 + d) _ (by exact rfl) (by omega) (by omega) ?_
          rw [vN_len] at c2
          have k0 : k = 0 := by have := V.int.inj (of_decide_eq_true c1); omega
          have : 1 + d ≠ rest.length := fun e => c2 (decide_eq_true (by rw [← e]; rfl))
          omega
        · refine ite2 (fun c2 => by cases c2) (fun c2 => ?_)
          refine fin (1 + d) _ (by exact rfl) (by omega) (by omega) ?_
          have : k ≠ 0 := fun e => c1 (decide_eq_true (by rw [e]; rfl))
          omega
      · rw [vN_len] at c
        have c : rest.length = 0 := by
          rcases Nat.eq_zero_or_pos rest.length with h | h
          · exact h
          · exact absurd (decide_eq_true (by omega)) c
        exact ⟨rr, _, _, rs, pts, rest, rfl, s3, PP, hrr, nrrs, nrrp, fl, by omega, fun h => by omega, by omega, hpts⟩
    · obtain ⟨rr, v5, v6, rs, pts, rest, rfl, s3, PP, hrr, nrrs, nrrp, fl, lr, lr0, lpk, hpts⟩ := hP
      have er : rest = [] := List.eq_nil_of_length_eq_zero (by omega)
      rw [er, List.append_nil] at fl
      -- the word that follows
      refine ⟨sz (by show 2 ≤ 1000000; decide), fun u nu => ?_⟩
      ktr_call (H4 e4 h4) nu
      refine ⟨_, rfl, rfl, .inr ⟨_, rfl, ?_⟩⟩
      obtain ⟨j, w', hj, hw', hjw⟩ : ∃ (j : Nat) (w' : Str), (if (decide (V.str w = V.str "beside")) = true then (1 : Int) else 0) = (j : Int) ∧ (w' = "beside" ∨ w' = "above") ∧ ([V.str "beside", V.str "above"] : List V)[j]? = some (.str w') := by
        by_cases h : V.str w = V.str "beside"
        · exact ⟨1, "above", by rw [decide_eq_true h]; rfl, .inr rfl, rfl⟩
        · exact ⟨0, "beside", by rw [decide_eq_false h]; rfl, .inl rfl, rfl⟩
      rw [hj]
      refine .inl ⟨u, _, j, _, rfl, rfl, SqL.of h4, atn hjw, ?_⟩
      have PP4 := PP.same e4
      have s4 := s3.then e4
      refine ⟨_, rfl, _, rfl, p, rfl, ⟨_, SqL.of PP4.top⟩, fun D hD => lc_list (K := K) (a := p) (xs := rs.map V.ref) (fun i H5 => ∃ acc ds, Stm s H4 H5 ∧ H5 D = some (.lst acc) ∧ acc.length = i ∧ ds.length = i ∧ DpAll K H5 acc ds ∧ ∀ (j : Nat) d ns', ds[j]? = some d → pts[j]? = some ns' → IsT m d ns') ⟨[], [], Stm.of s4.st (same_up hD), upd_same, rfl, rfl, .nil, fun j d ns' h => by simp at h⟩ (fun i H5 _ ⟨acc, ds, s5, _⟩ => SqL.of (PP4.stm s5 nps).top) (fun i x H5 hx ⟨acc, ds, s5, h5, la, ld, da, it⟩ => ?_) (fun H5 ⟨acc, ds, s5, h5, la, ld, da, it⟩ => ?_)⟩
      · have hi : i < rs.length := by have := (List.getElem?_eq_some_iff.mp hx).1; simpa using this
        have ex : x = .ref rs[i] := by
          rw [List.getElem?_map, List.getElem?_eq_getElem hi] at hx
          exact (Option.some.inj hx).symm
        subst ex
        have hip : i < pts.length := by rw [← PP.len]; exact hi
        have Ds : D ≠ s := s4.st.ne hD
        obtain ⟨g1, g2, g3⟩ := (PP4.stm s5 nps).at_ i rs[i] pts[i] (List.getElem?_eq_getElem hi) (List.getElem?_eq_getElem hip)
        obtain ⟨p0, p1⟩ := hpts pts[i] (List.getElem_mem hip)
        have nds : noLA ds = true := noLA_all fun d hd => by
          obtain ⟨j, hj, rfl⟩ := List.getElem_of_mem hd
          exact (it j _ (pts[j]'(by omega)) (List.getElem?_eq_getElem hj) (List.getElem?_eq_getElem (by omega))).noL
        refine ⟨rfl, _, rfl, _, rfl, _, rfl, s, rs[i], w', pts[i], rfl, s5.st, SqL.of g1, g2, p0, by omega, by omega, hw', fun v d H6 s6 hd6 it6 => ?_⟩
        have h6 := s6.keep _ _ Ds h5
        have da6 := Stm.dpAll s6 s5.st _ _ (n3A_of_noLA _ nds) da
        refine ⟨acc, h6, szl (by omega), acc ++ [v], ds ++ [d], (s5.trans s6).but but_up hD Ds, upd_same, by rw [List.length_append, la]; rfl, by rw [List.length_append, ld]; rfl, ?_, fun j d' ns' h1 h2 => ?_⟩
        · exact dpa_app (But.dpAll but_up h6 _ _ nds da6) (dpa_one (But.dp but_up h6 _ _ it6.noL hd6))
        · by_cases hji : j < ds.length
          · rw [List.getElem?_append_left hji] at h1
            exact it j d' ns' h1 h2
          · rw [List.getElem?_append_right (by omega)] at h1
            cases hk : j - ds.length with
            | zero =>
              rw [hk] at h1
              simp at h1
              subst h1
              have : j = i := by omega
              subst this
              rw [List.getElem?_eq_getElem hip] at h2
              cases h2
              exact it6
            | succ k => rw [hk] at h1; simp at h1
      · rw [List.length_map] at la ld
        refine ⟨D, acc, rfl, .inl ⟨SqL.of h5, fun l nl => ?_⟩⟩
        ktr_call (H6 e6 h6) nl
        refine ⟨sz (by show 2 ≤ 1000000; decide), fun t nt => ?_⟩
        ktr_call (H7 e7 h7) nt
        have e67 := e6.trans e7
        refine q _ (.tuple [.str w, .tuple ds]) H7 ((s4.trans s5).then e67) (.tup (SqT.of h7) (.cons (.str _) (.cons (.tup (SqT.of (e7 _ _ h6)) (Dp.sameAll e67 _ _ da)) .nil))) ?_
        rw [← fl]
        exact .node m w ds pts hw (by rw [ld, PP.len]) it
end
end K11
set_option maxHeartbeats 4000000

/-! B13: tree_members, by_tree. -/
namespace K11
open PySem PySem.Spec PyProof.Rows L2
theorem isL_app (a b : List Nat) : isL (a ++ b) = isL a ++ isL b := by unfold isL; rw [List.map_append]
theorem isL_len (a : List Nat) : (isL a).length = a.length := List.length_map _
theorem ByNames.right {ns ms : List Nat} {ps : List (Nat × Nat)} (h : ByNames ns ps) : ByNames (ns ++ ms) ps := fun p hp => by
  obtain ⟨a, b, hab, ha, hb⟩ := h p hp
  have h1 := (List.getElem?_eq_some_iff.mp ha).1
  have h2 := (List.getElem?_eq_some_iff.mp hb).1
  exact ⟨a, b, hab, by rw [List.getElem?_append_left h1]; exact ha, by rw [List.getElem?_append_left h2]; exact hb⟩
theorem ByNames.left {ns ms : List Nat} {ps : List (Nat × Nat)} (h : ByNames ms ps) : ByNames (ns ++ ms) ps := fun p hp => by
  obtain ⟨a, b, hab, ha, hb⟩ := h p hp
  exact ⟨ns.length + a, ns.length + b, by omega, by rw [List.getElem?_append_right (by omega)]; simpa using ha, by rw [List.getElem?_append_right (by omega)]; simpa using hb⟩
theorem flat_take (nss : List (List Nat)) (i : Nat) (h : i < nss.length) : (nss.take (i + 1)).flatten = (nss.take i).flatten ++ nss[i] := by
  rw [List.take_add_one, List.getElem?_eq_getElem h, List.flatten_append]
  simp
theorem flat_le (nss : List (List Nat)) (i : Nat) : (nss.take i).flatten.length ≤ nss.flatten.length := by
  have h : nss.flatten = (nss.take i).flatten ++ (nss.drop i).flatten := by rw [← List.flatten_append, List.take_append_drop]
  rw [h, List.length_append]
  omega
theorem str_at {K : PySem.W.Frag} {H : Hp} {v : V} {x : Str} (h : Dp K H v (.str x)) : v = .str x := by cases h; rfl
section
variable {P : Program} {w : World} {K : PySem.W.Frag} {mg : Str → Option Value} {base : Heap}
abbrev s_law_tree_members : Stmt := topS 74
abbrev N_law_tree_members : List Str := ["_law_tree", "_law_found", "_law_branch"]
theorem sc_law_tree_members : FnScope N_law_tree_members ["_law_tree"] (defScope s_law_tree_members) := ⟨rfl, rfl, rfl, by decide +kernel, rfl, by decide +kernel, by decide +kernel⟩
def spMembers (K : PySem.W.Frag) (m : Nat) : Sp := fun vs H Q _ => ∃ (v : V) (d : PyData) (ns : List Nat), vs = [v] ∧ Dp K H v d ∧ IsT m d ns ∧ ns.length ≤ 1000 ∧ ∀ r H', H r = none → Same H H' → LA K H' r (isL ns) → Q (.ref r) H'
theorem d_members0 (T : Blt mg) (t : TD K mg "_law_tree_members" s_law_tree_members) : ∀ m : Nat, Df P w K mg base (m + 1) "_law_tree_members" (spMembers K m)
  | 0 => by
    refine df_mk t sc_law_tree_members (fun _ _ _ _ _ _ us hl => match us, hl with | [_], _ => rfl) (fun vs H Q E h => ?_) (fun f cdv A outer s₀ H vs Q E hr h => ?_)
    · obtain ⟨v, d, ns, rfl, _⟩ := h; rfl
    · obtain ⟨v, d, ns, rfl, _, h, _⟩ := h
      cases h
  | m + 1 => by
    have d__law_tree_members := d_members0 T t m
    refine df_mk t sc_law_tree_members (fun _ _ _ _ _ _ us hl => match us, hl with | [_], _ => rfl) (fun vs H Q E h => ?_) (fun f cdv A outer s₀ H vs Q E hr h => ?_)
    · obtain ⟨v, d, ns, rfl, _⟩ := h; rfl
    obtain ⟨v, d, ns, rfl, hd, hT, hn, q⟩ := h
    refine ⟨_, pss_cons (ps_if (pt_cmpR op_eq (pe_ix (ixK (K := K) rfl) (pv 0) (pe_int) (fun _ _ => rfl)) (pe_str) (nomark _))
      (pss_one (ps_ret (pe_lst (pa_cons (pe_ix (ixK (K := K) rfl) (pv 0) (pe_int) (fun _ _ => rfl)) pa_nil))))
      (pss_nil))
      (pss_cons (ps_set (i := 1) sc_law_tree_members.nd rfl (.inl rfl) (pe_lst pa_nil))
      (pss_cons (ps_for PassesOwn.never rfl (pi_tup (pe_ix (ixK (K := K) rfl) (pv 0) (pe_int) (fun _ _ => rfl))) (pg_name (i := 2) sc_law_tree_members.nd rfl (.inl rfl))
      (pss_one (ps_set (i := 1) sc_law_tree_members.nd rfl (.inl rfl) (pe_op op_cat (pv 1) (pe_df d__law_tree_members hr (by omega) rfl (pa_cons (pv 2) pa_nil))))))
      (pss_one (ps_ret (pv 1))))), ?_⟩
    cases hT with
    | one m e =>
      obtain ⟨a, xs, rfl, hs, ha⟩ := dp_tup hd
      cases ha with
      | cons h1 ha => cases ha with
        | cons h2 ha =>
          cases ha
          cases str_at h1
          cases dp_int h2
          refine ⟨_, rfl, .inr (.inl ⟨a, _, (0 : Nat), _, rfl, rfl, hs, atn (i := 0) rfl, rfl, _, rfl, ite2 (fun _ => ?_) (fun c => absurd (decide_eq_true rfl) c)⟩)⟩
          refine ⟨_, rfl, .inr (.inl ⟨a, _, (1 : Nat), _, rfl, rfl, hs, atn (i := 1) rfl, sz (by show 1 ≤ 1000000; decide), fun r nr => ?_⟩)⟩
          ktr_call (H1 e1 h1) nr
          exact q r H1 nr e1 ⟨_, h1, dpa_isL [e]⟩
    | node m w ds nss hw hl hT =>
      obtain ⟨a, xs, rfl, hs, ha⟩ := dp_tup hd
      cases ha with
      | cons h1 ha => cases ha with
        | cons h2 ha =>
          cases ha
          cases str_at h1
          obtain ⟨b, ys, rfl, hb, hb2⟩ := dp_tup h2
          have wne : ¬ decide (V.str w = V.str "one") = true := fun h => by
            have h := V.str.inj (of_decide_eq_true h)
            rcases hw with rfl | rfl <;> exact absurd h (by decide)
          refine ⟨_, rfl, .inr (.inl ⟨a, _, (0 : Nat), _, rfl, rfl, hs, atn (i := 0) rfl, rfl, _, rfl, ite2 (fun c => absurd c wne) (fun _ => ?_)⟩)⟩
          refine ⟨Nat.zero_le _, fun r nr => ?_⟩
          ktr_call (H1 e1 hr1) nr
          have ly := dpa_len hb2
          refine ⟨_, rfl, .inr (.inl ⟨a, _, (1 : Nat), _, rfl, rfl, K11.Same.sqt e1 hs, atn (i := 1) rfl, b, rfl, ⟨_, K11.Same.sqt e1 hb⟩, for_tup (K := K) (a := b) (xs := ys) (fun i σ H3 => ∃ r v2, σ = [some (.ref a), some (.ref r), v2] ∧ Same H H3 ∧ H r = none ∧ LA K H3 r (isL (nss.take i).flatten)) ⟨r, none, rfl, e1, nr, ⟨_, hr1, .nil⟩⟩ (fun i σ H3 _ ⟨_, _, _, s3, _⟩ => K11.Same.sqt s3 hb) (fun i x σ H3 hx hP => ?_) (fun σ H3 hP => ?_)⟩)⟩
          · obtain ⟨r, v2, rfl, s3, nr, hL⟩ := hP
            obtain ⟨d, hdi, hxd⟩ := dpa_get hb2 hx
            have hi : i < nss.length := by have := (List.getElem?_eq_some_iff.mp hdi).1; omega
            have l1 := flat_le nss i
            have l2 := flat_le nss (i + 1)
            rw [flat_take nss i hi, List.length_append] at l2
            refine cat_then (zs := isL nss[i]) rfl hL (by rw [isL_len, isL_len]; omega) (fun R hR => ?_) (fun r' H4 nr' s4 hL' => ?_)
            · exact ⟨_, rfl, x, d, nss[i], rfl, Dp.same s3 _ _ hxd, hT i d _ hdi (List.getElem?_eq_getElem hi), by omega, fun L H4 nL s4 hL4 => hR L H4 s4 hL4⟩
            · refine ⟨r', _, rfl, s3.trans s4, s3.free nr', ?_⟩
              rw [flat_take nss i hi, isL_app]
              exact hL'
          · obtain ⟨r, v2, rfl, s3, nr, hL⟩ := hP
            rw [ly, hl, List.take_length] at hL
            exact ⟨_, rfl, q r H3 nr s3 hL⟩

abbrev s_law_by_tree : Stmt := topS 75
abbrev N_law_by_tree : List Str := ["_law_tree", "_law_found", "_law_lower", "_law_branch", "_law_members_here", "_law_low", "_law_high"]
theorem sc_law_by_tree : FnScope N_law_by_tree ["_law_tree"] (defScope s_law_by_tree) := ⟨rfl, rfl, rfl, by decide +kernel, rfl, by decide +kernel, by decide +kernel⟩
def spByTree (K : PySem.W.Frag) (m : Nat) : Sp := fun vs H Q _ => ∃ (v : V) (d : PyData) (ns : List Nat), vs = [v] ∧ Dp K H v d ∧ IsT m d ns ∧ ns.length ≤ 99 ∧ ∀ r ps H', H r = none → Same H H' → LA K H' r (psL ps) → ByNames ns ps → ps.length ≤ ns.length * ns.length → Q (.ref r) H'
theorem sq_add (a b : Nat) : a * a + b * b + a * b ≤ (a + b) * (a + b) := by
  rw [Nat.add_mul, Nat.mul_add, Nat.mul_add, Nat.mul_comm b a]
  omega
theorem d_bytree (T : Blt mg) (t : TD K mg "_law_by_tree" s_law_by_tree) (dM : ∀ m, Df P w K mg base (m + 1) "_law_tree_members" (spMembers K m)) : ∀ m : Nat, Df P w K mg base (m + 1) "_law_by_tree" (spByTree K m)
  | 0 => by
    refine df_mk t sc_law_by_tree (fun _ _ _ _ _ _ us hl => match us, hl with | [_], _ => rfl) (fun vs H Q E h => ?_) (fun f cdv A outer s₀ H vs Q E hr h => ?_)
    · obtain ⟨v, d, ns, rfl, _⟩ := h; rfl
    · obtain ⟨v, d, ns, rfl, _, h, _⟩ := h
      cases h
  | m + 1 => by
    have d__law_by_tree := d_bytree T t dM m
    have d__law_tree_members := dM m
    refine df_mk t sc_law_by_tree (fun _ _ _ _ _ _ us hl => match us, hl with | [_], _ => rfl) (fun vs H Q E h => ?_) (fun f cdv A outer s₀ H vs Q E hr h => ?_)
    · obtain ⟨v, d, ns, rfl, _⟩ := h; rfl
    obtain ⟨v, d, ns, rfl, hd, hT, hn, q⟩ := h
    refine ⟨_, pss_cons (ps_if (pt_cmpR op_eq (pe_ix (ixK (K := K) rfl) (pv 0) (pe_int) (fun _ _ => rfl)) (pe_str) (nomark _))
      (pss_one (ps_ret (pe_lst pa_nil)))
      (pss_nil))
      (pss_cons (ps_set (i := 1) sc_law_by_tree.nd rfl (.inl rfl) (pe_lst pa_nil))
      (pss_cons (ps_set (i := 2) sc_law_by_tree.nd rfl (.inl rfl) (pe_lst pa_nil))
      (pss_cons (ps_for PassesOwn.never rfl (pi_tup (pe_ix (ixK (K := K) rfl) (pv 0) (pe_int) (fun _ _ => rfl))) (pg_name (i := 3) sc_law_by_tree.nd rfl (.inl rfl))
      (pss_cons (ps_set (i := 1) sc_law_by_tree.nd rfl (.inl rfl) (pe_op op_cat (pv 1) (pe_df d__law_by_tree hr (by omega) rfl (pa_cons (pv 3) pa_nil))))
      (pss_cons (ps_set (i := 4) sc_law_by_tree.nd rfl (.inl rfl) (pe_df d__law_tree_members hr (by omega) rfl (pa_cons (pv 3) pa_nil)))
      (pss_one (ps_if (pt_cmpR op_eq (pe_ix (ixK (K := K) rfl) (pv 0) (pe_int) (fun _ _ => rfl)) (pe_str) (nomark _))
      (pss_cons (ps_for PassesOwn.never rfl (pi_list (pv 2)) (pg_name (i := 5) sc_law_by_tree.nd rfl (.inr rfl))
      (pss_one (ps_set (i := 1) sc_law_by_tree.nd rfl (.inl rfl) (pe_op op_cat (pv 1) (pe_lc (own := [("_law_high", 6)]) (g := gName 6) rfl sc_law_by_tree.nd (pi_list (pv 4)) (blkOk_by (own := [("_law_high", 6)]) (N := N_law_by_tree) (sc := defScope s_law_by_tree) (by decide +kernel)) (fun _ _ _ _ _ => pg_name (i := 6) sc_law_by_tree.nd rfl (by first | exact .inl rfl | exact .inr rfl)) (fun _ _ _ _ _ => pts_nil) (fun _ _ _ _ _ => pe_tup (pa_cons (pv 5) (pa_cons (pv 6) pa_nil))))))))
      (pss_one (ps_set (i := 2) sc_law_by_tree.nd rfl (.inl rfl) (pe_op op_cat (pv 2) (pv 4)))))
      (pss_nil))))))
      (pss_one (ps_ret (pv 1)))))), ?_⟩
    cases hT with
    | one m e =>
      obtain ⟨a, xs, rfl, hs, ha⟩ := dp_tup hd
      cases ha with
      | cons h1 ha => cases ha with
        | cons h2 ha =>
          cases ha
          cases str_at h1
          cases dp_int h2
          refine ⟨_, rfl, .inr (.inl ⟨a, _, (0 : Nat), _, rfl, rfl, hs, atn (i := 0) rfl, rfl, _, rfl, ite2 (fun _ => ?_) (fun c => absurd (decide_eq_true rfl) c)⟩)⟩
          refine ⟨Nat.zero_le _, fun r nr => ?_⟩
          ktr_call (H1 e1 h1) nr
          exact q r [] H1 nr e1 ⟨_, h1, .nil⟩ (fun p hp => by cases hp) (Nat.zero_le _)
    | node m w ds nss hw hl hT =>
      obtain ⟨a, xs, rfl, hs, ha⟩ := dp_tup hd
      cases ha with
      | cons h1 ha => cases ha with
        | cons h2 ha =>
          cases ha
          cases str_at h1
          obtain ⟨b, ys, rfl, hb, hb2⟩ := dp_tup h2
          have wne : ¬ decide (V.str w = V.str "one") = true := fun h => by
            have h := V.str.inj (of_decide_eq_true h)
            rcases hw with rfl | rfl <;> exact absurd h (by decide)
          refine ⟨_, rfl, .inr (.inl ⟨a, _, (0 : Nat), _, rfl, rfl, hs, atn (i := 0) rfl, rfl, _, rfl, ite2 (fun c => absurd c wne) (fun _ => ?_)⟩)⟩
          refine ⟨Nat.zero_le _, fun r nr => ?_⟩
          ktr_call (H1 e1 hr1) nr
          refine ⟨Nat.zero_le _, fun l nl => ?_⟩
          ktr_call (H2 e2 hl2) nl
          have e12 := e1.trans e2
          have ly := dpa_len hb2
          refine ⟨_, rfl, .inr (.inl ⟨a, _, (1 : Nat), _, rfl, rfl, K11.Same.sqt e12 hs, atn (i := 1) rfl, b, rfl, ⟨_, K11.Same.sqt e12 hb⟩, for_tup (K := K) (a := b) (xs := ys) (fun i σ H3 => ∃ r l v3 v4 v5 ps lw, σ = [some (.ref a), some (.ref r), some (.ref l), v3, v4, v5, none] ∧ Same H H3 ∧ H r = none ∧ LA K H3 r (psL ps) ∧ ByNames (nss.take i).flatten ps ∧ ps.length ≤ (nss.take i).flatten.length * (nss.take i).flatten.length ∧ LA K H3 l (isL lw) ∧ lw.length ≤ (nss.take i).flatten.length ∧ ∀ x ∈ lw, x ∈ (nss.take i).flatten) ⟨r, l, none, none, none, [], [], rfl, e12, nr, ⟨_, e2 _ _ hr1, .nil⟩, fun p hp => (by cases hp), Nat.zero_le _, ⟨_, hl2, .nil⟩, Nat.zero_le _, fun x hx => by cases hx⟩ (fun i σ H3 _ ⟨_, _, _, _, _, _, _, _, s3, _⟩ => K11.Same.sqt s3 hb) (fun i x σ H3 hx hP => ?_) (fun σ H3 hP => ?_)⟩)⟩
          · obtain ⟨r, l, v3, v4, v5, ps, lw, rfl, s3, nr, hL, B, lp, hLw, llw, slw⟩ := hP
            obtain ⟨d, hdi, hxd⟩ := dpa_get hb2 hx
            have hi : i < nss.length := by have := (List.getElem?_eq_some_iff.mp hdi).1; omega
            have l1 := flat_le nss i
            have l2 := flat_le nss (i + 1)
            rw [flat_take nss i hi] at l2 ⊢
            generalize hpre : (nss.take i).flatten = pre at B lp llw slw l1 l2
            generalize hcur : nss[i] = cur at l2
            rw [List.length_append] at l2
            have hT' : IsT m d cur := by rw [← hcur]; exact hT i d _ hdi (List.getElem?_eq_getElem hi)
            have m1 : pre.length * pre.length ≤ 99 * 99 := Nat.mul_le_mul (by omega) (by omega)
            have m2 : cur.length * cur.length ≤ 99 * 99 := Nat.mul_le_mul (by omega) (by omega)
            have m3 : lw.length * cur.length ≤ pre.length * cur.length := Nat.mul_le_mul_right _ llw
            have m4 : pre.length * cur.length ≤ 99 * 99 := Nat.mul_le_mul (by omega) (by omega)
            have m5 := sq_add pre.length cur.length
            refine ⟨_, rfl, _, rfl, x, d, cur, rfl, Dp.same s3 _ _ hxd, hT', by omega, fun L qs H4 nL s4 hL4 B4 l4 => ?_⟩
            obtain ⟨us, u1, u2⟩ := hL.same s4
            obtain ⟨zs, z1, z2⟩ := hL4
            have du := dpa_len u2
            have dz := dpa_len z2
            rw [psL_len] at du dz
            refine ⟨r, L, us, zs, rfl, rfl, u1, z1, sz (by omega), fun r2 nr2 => ?_⟩
            ktr_call (H5 e5 h5) nr2
            have s5 := (s3.trans s4).trans e5
            have hL5 : LA K H5 r2 (psL (ps ++ qs)) := ⟨_, h5, by rw [psL_app]; exact dpa_app (Dp.sameAll e5 _ _ u2) (Dp.sameAll e5 _ _ z2)⟩
            have hLw5 := (hLw.same s4).same e5
            refine ⟨_, rfl, x, d, cur, rfl, Dp.same s5 _ _ hxd, hT', by omega, fun Mb H6 nM s6 hM => ?_⟩
            have s36 := s5.trans s6
            have B6 : ByNames (pre ++ cur) (ps ++ qs) := (B.right).more B4.left
            have nr6 : H r2 = none := (s3.trans s4).free nr2
            refine ⟨_, rfl, .inr (.inl ⟨a, _, (0 : Nat), _, rfl, rfl, K11.Same.sqt s36 hs, atn (i := 0) rfl, rfl, _, rfl, ite2 (fun c => ?_) (fun c => ?_)⟩)⟩
            · obtain ⟨lws, w1, w2⟩ := hLw5.same s6
              have dw := dpa_len w2
              have w2' := dpa_isL_eq w2
              subst w2'
              refine ⟨_, rfl, l, rfl, ⟨_, SqL.of w1⟩, for_list (K := K) (a := l) (xs := vN lw) (fun k σ H7 => ∃ r3 v5 ps2, σ = [some (.ref a), some (.ref r3), some (.ref l), some x, some (.ref Mb), v5, none] ∧ Same H6 H7 ∧ H r3 = none ∧ LA K H7 r3 (psL ps2) ∧ ByNames (pre ++ cur) ps2 ∧ ps2.length ≤ ps.length + qs.length + k * cur.length) ⟨r2, v5, _, rfl, .refl _, nr6, hL5.same s6, B6, by rw [List.length_append]; omega⟩ (fun k σ H7 _ ⟨_, _, _, _, s7, _⟩ => SqL.of (s7 _ _ w1)) (fun k y σ H7 hy hP => ?_) (fun σ H7 hP => ?_)⟩
              · obtain ⟨r3, v5, ps2, rfl, s7, nr3, hL7, B7, l7⟩ := hP
                have hk : k < lw.length := by have := (List.getElem?_eq_some_iff.mp hy).1; rw [vN_len] at this; exact this
                rw [vN_at hk] at hy
                cases hy
                have hkm : (k + 1) * cur.length ≤ lw.length * cur.length := Nat.mul_le_mul_right _ hk
                rw [Nat.succ_mul] at hkm
                obtain ⟨mv, v1, v2⟩ := hM.same s7
                have v2' := dpa_isL_eq v2
                subst v2'
                refine cat_then (zs := ((isL cur).filter fun _ => true).map fun d => pD (lw[k], toN d)) rfl hL7 ?_ (fun R hR => ?_) (fun r' H8 nr' s8 hL' => ?_)
                · rw [psL_len, List.length_map]
                  have := List.length_filter_le (fun _ => true) (isL cur)
                  rw [isL_len] at this
                  omega
                · refine ⟨_, rfl, lc_ld (K := K) (ds := isL cur) (by rw [List.length_map]; omega) (SqL.of v1) v2 (fun _ => true) (fun d => pD (lw[k], toN d)) (fun z => [some (.ref a), some (.ref r3), some (.ref l), some x, some (.ref Mb), some (.int (lw[k] : Nat)), some z]) (fun x H R h => h) (fun x => rfl) (fun z d H8 R _ _ s8 hR => hR H8 (.refl _)) (fun z d H8 R hd hzd _ s8 hR => ?_) (fun L H8 nL s8 hL8 => hR L H8 s8 hL8)⟩
                  obtain ⟨y, hy, rfl⟩ := List.mem_map.mp hd
                  cases dp_int hzd
                  refine ⟨_, rfl, _, rfl, sz (by show 2 ≤ 1000000; decide), fun t nt => ?_⟩
                  exact hR _ _ (same_up nt) (dp_pD_mk (p := (lw[k], y)) upd_same) (.inl rfl)
                · have el : (((isL cur).filter fun _ => true).map fun d => pD (lw[k], toN d)) = psL (cur.map fun z => (lw[k], z)) := by
                    rw [show ((isL cur).filter fun _ => true) = isL cur from List.filter_eq_self.mpr fun _ _ => rfl]
                    unfold psL isL
                    rw [List.map_map, List.map_map]
                    rfl
                  rw [el, ← psL_app] at hL'
                  refine ⟨r', _, _, rfl, s7.trans s8, (s36.trans s7).free nr', hL', B7.more fun p hp => ?_, ?_⟩
                  · obtain ⟨z, hz, rfl⟩ := List.mem_map.mp hp
                    obtain ⟨i1, hi1, e1⟩ := List.getElem_of_mem (slw lw[k] (List.getElem_mem hk))
                    obtain ⟨i2, hi2, e2⟩ := List.getElem_of_mem hz
                    refine ⟨i1, pre.length + i2, by omega, ?_, ?_⟩
                    · rw [List.getElem?_append_left hi1, List.getElem?_eq_getElem hi1, e1]
                    · rw [List.getElem?_append_right (by omega), Nat.add_sub_cancel_left, List.getElem?_eq_getElem hi2, e2]
                  · rw [List.length_append, List.length_map, Nat.succ_mul]
                    omega
              · obtain ⟨r3, v5, ps2, rfl, s7, nr3, hL7, B7, l7⟩ := hP
                rw [vN_len] at l7
                refine cat_then (zs := isL cur) rfl ((hLw5.same s6).same s7) (by rw [isL_len, isL_len]; omega) (fun R hR => ⟨_, rfl, hR _ _ (.refl _) (hM.same s7)⟩) (fun l' H8 nl' s8 hL' => ?_)
                rw [← isL_app] at hL'
                refine ⟨r3, l', _, _, _, ps2, lw ++ cur, rfl, (s36.trans s7).trans s8, nr3, hL7.same s8, B7, ?_, hL', by rw [List.length_append, List.length_append]; omega, fun z hz => ?_⟩
                · rw [List.length_append]
                  omega
                · rcases List.mem_append.mp hz with h | h
                  · exact List.mem_append_left _ (slw z h)
                  · exact List.mem_append_right _ h
            · refine ⟨r2, l, _, _, _, ps ++ qs, lw, rfl, s36, nr6, hL5.same s6, B6, ?_, hLw5.same s6, by rw [List.length_append]; omega, fun z hz => List.mem_append_left _ (slw z hz)⟩
              rw [List.length_append, List.length_append]
              omega
          · obtain ⟨r, l, v3, v4, v5, ps, lw, rfl, s3, nr, hL, B, lp, _⟩ := hP
            rw [ly, hl, List.take_length] at B lp
            exact ⟨_, rfl, q r ps H3 nr s3 hL B lp⟩
end
end K11
set_option maxHeartbeats 4000000

/-! B14: family, any_order, told. -/
namespace K11
open PySem PySem.Spec PyProof.Rows L2
/-- all but the stream and one list is as it was -/
def Stk (l s : Addr) (H H' : Hp) : Prop := ∀ b o, b ≠ s → b ≠ l → H b = some o → H' b = some o
section
variable {K : PySem.W.Frag} {l s a : Addr} {H H' H'' : Hp} {xs us : List V}
theorem Stk.refl : Stk l s H H := fun _ _ _ _ h => h
theorem Stk.stm (e : Stk l s H H') (g : Stm s H' H'') : Stk l s H H'' := fun b o n m h => g.keep b o n (e b o n m h)
theorem Stk.same (e : Stk l s H H') (g : Same H' H'') : Stk l s H H'' := fun b o n m h => g b o (e b o n m h)
theorem Stk.but (e : Stk l s H H') (g : But l H' H'') : Stk l s H H'' := fun b o n m h => g.get m (e b o n m h)
theorem Stk.sql (e : Stk l s H H') (h : SqL K H a xs) (n : a ≠ s) (m : a ≠ l) : SqL K H' a xs := by
  rcases h with (h | ⟨o, h⟩) | h
  · exact .inl (.inl (e _ _ n m h))
  · exact .inl (.inr ⟨o, e _ _ n m h⟩)
  · exact .inr h
theorem Stk.sqt (e : Stk l s H H') (hs : Strm H s) (hl : H l = some (.lst us)) (h : SqT K H a xs) : SqT K H' a xs := by
  obtain ⟨x, c, m, hs⟩ := hs
  rcases h with (h | ⟨o, h⟩) | h
  · exact .inl (.inl (e _ _ (fun z => by rw [z, hs] at h; cases h) (fun z => by rw [z, hl] at h; cases h) h))
  · exact .inl (.inr ⟨o, e _ _ (fun z => by rw [z, hs] at h; cases h) (fun z => by rw [z, hl] at h; cases h) h⟩)
  · exact .inr h
end
theorem if_set {c : Prop} [Decidable c] {i j : Nat} {D : Ends} {σ : L2.St} {H : Hp} {Good : L2.St → Prop} (h1 : c → ∃ v, σ[i]? = some (some v) ∧ Good (σ.set j (some v))) (h2 : ¬ c → Good σ) (h : ∀ σ', Good σ' → D.nx σ' H) :
    if c then tAsg (tVar i) (gName j) D σ H else tNext D σ H := by
  by_cases hc : c
  · rw [if_pos hc]
    obtain ⟨v, h3, h4⟩ := h1 hc
    exact ⟨v, h3, h _ h4⟩
  · rw [if_neg hc]
    exact h _ (h2 hc)
theorem grid_all (n : Nat) (p : Nat → Nat → Bool) : (grid n p n).length ≤ n * n := grid_len n p n
theorem acy_arcs {n : Nat} {ps : List (Nat × Nat)} (hl : ps.length = n) (h : ∀ p ∈ ps, p.1 < p.2) : Acy n (byArcs ps) := by
  unfold byArcs
  refine ⟨fun p hp => ?_, fs ps, fun p hp => ?_⟩
  · obtain ⟨h1, h2, _⟩ := mem_grid.mp hp
    omega
  · obtain ⟨h1, h2, h3⟩ := mem_grid.mp hp
    have h3 := of_decide_eq_true h3
    have h4 := h (ps[p.1]'h1) (List.getElem_mem _)
    have e1 : fs ps p.1 = (ps[p.1]'h1).1 := by unfold fs; simp [h1]
    have e2 : sn ps p.1 = (ps[p.1]'h1).2 := by unfold sn; simp [h1]
    omega
theorem acy_spans {n : Nat} {ps : List (Nat × Nat)} (hl : ps.length = n) (h : ∀ p ∈ ps, p.1 ≤ p.2) : Acy n (bySpans ps) := by
  unfold bySpans
  refine ⟨fun p hp => ?_, fs ps, fun p hp => ?_⟩
  · obtain ⟨h1, h2, _⟩ := mem_grid.mp hp
    omega
  · obtain ⟨h1, h2, h3⟩ := mem_grid.mp hp
    have h3 := of_decide_eq_true h3
    have h4 := h (ps[p.1]'h1) (List.getElem_mem _)
    have e1 : fs ps p.1 = (ps[p.1]'h1).1 := by unfold fs; simp [h1]
    have e2 : sn ps p.1 = (ps[p.1]'h1).2 := by unfold sn; simp [h1]
    omega
theorem acy_ranks {n : Nat} {ns : List Nat} (hl : ns.length = n) : Acy n (byRanks ns) := by
  unfold byRanks
  refine ⟨fun p hp => ?_, fun i => ns.getD i 0, fun p hp => ?_⟩
  · obtain ⟨h1, h2, _⟩ := mem_grid.mp hp
    omega
  · obtain ⟨h1, h2, h3⟩ := mem_grid.mp hp
    exact of_decide_eq_true h3
theorem byArcs_len (ps : List (Nat × Nat)) : (byArcs ps).length ≤ ps.length * ps.length := grid_all _ _
theorem bySpans_len (ps : List (Nat × Nat)) : (bySpans ps).length ≤ ps.length * ps.length := grid_all _ _
theorem byRanks_len (ns : List Nat) : (byRanks ns).length ≤ ns.length * ns.length := grid_all _ _
theorem byPar_len (os : List (Option Nat)) : (byPar os).length ≤ os.length := by
  unfold byPar
  rw [List.length_map]
  have := List.length_filter_le (fun k => (os.getD k none).isSome) (List.range os.length)
  rw [List.length_range] at this
  exact this
theorem Acy.sub {n : Nat} {ps qs : List (Nat × Nat)} (h : Acy n ps) (s : ∀ p ∈ qs, p ∈ ps) : Acy n qs := by
  obtain ⟨h1, r, h2⟩ := h
  exact ⟨fun p hp => h1 p (s p hp), r, fun p hp => h2 p (s p hp)⟩
theorem acy_nil (n : Nat) : Acy n [] := ⟨fun p hp => (by cases hp), fun _ => 0, fun p hp => (by cases hp)⟩
theorem n3_rowL (n : Nat) (f : Nat → Bool) : n3 (.list (rowL n f)) = true := by
  have h : i3 (rowL n f) = false := by
    cases n with
    | zero => rfl
    | succ n =>
      unfold rowL
      rw [List.range_succ_eq_map, List.map_cons]
      rfl
  rw [n3, h, n3A_of_noLA _ (noLA_rowL n f)]
  rfl
theorem n3A_all {ds : List PyData} (h : ∀ d ∈ ds, n3 d = true) : n3A ds = true := by
  induction ds with
  | nil => rfl
  | cons d ds ih => rw [n3A, Bool.and_eq_true]; exact ⟨h d List.mem_cons_self, ih fun e he => h e (List.mem_cons_of_mem _ he)⟩
theorem n3_TabD (n : Nat) (T : Nat → Nat → Bool) : n3 (TabD n T) = true := by
  have h1 : n3A ((List.range n).map fun i => PyData.list (rowL n (T i))) = true := n3A_all fun d hd => by
    obtain ⟨i, _, rfl⟩ := List.mem_map.mp hd
    exact n3_rowL n (T i)
  have h : i3 ((List.range n).map fun i => PyData.list (rowL n (T i))) = false := by
    cases n with
    | zero => rfl
    | succ n => rw [List.range_succ_eq_map, List.map_cons]; rfl
  unfold TabD
  rw [n3, h, h1]
  rfl
section
variable {P : Program} {w : World} {K : PySem.W.Frag} {mg : Str → Option Value} {base : Heap}
/-- mixed(stream, list(range(n))) -/
theorem names_then {σ : L2.St} {H : Hp} {Q : VK} {s : Addr} {n : Nat} (h0 : σ[0]? = some (some (.ref s))) (h1 : σ[1]? = some (some (.int n))) (hs : Strm H s) (hn : n ≤ 1000)
    (q : ∀ nm ns H', H nm = none → Stm s H H' → nm ≠ s → H' nm = some (.lst (vN ns)) → Names ns n → Q (.ref nm) H') :
    tCall (spMixed K) [] E0 (tCons (tVar 0) (tCons (tLstRg (tRg1 (tVar 1))) tNil)) σ H Q := by
  refine ⟨_, h0, _, h1, _, rfl, rg_ok (by omega), fun u nu => ?_⟩
  ktr_call (H1 e1 hu1) nu
  rw [rg_range] at hu1
  refine ⟨s, u, _, rfl, hs.same e1, SqL.of hu1, hs.ne nu, by rw [vN_len, List.length_range]; omega, fun nm ys H2 nnm s2 hnm pm => ?_⟩
  obtain ⟨ns, pm2, rfl⟩ := perm_map pm (ms := List.range n) rfl
  exact q nm ns H2 (e1.free nnm) ((Stm.of hs e1).trans s2) ((hs.same e1).ne nnm) hnm (names_of pm2)
abbrev s_law_family : Stmt := topS 82
abbrev N_law_family : List Str := ["_law_stream_here", "_law_size", "_law_family_here", "_law_k"]
theorem sc_law_family : FnScope N_law_family ["_law_stream_here", "_law_size", "_law_family_here"] (defScope s_law_family) := ⟨rfl, rfl, rfl, by decide +kernel, rfl, by decide +kernel, by decide +kernel⟩
def spFamily (K : PySem.W.Frag) : Sp := fun vs H Q _ => ∃ (s : Addr) (n k : Nat), vs = [.ref s, .int n, .int k] ∧ Strm H s ∧ n ≤ 7 ∧ ∀ r ps H', H r = none → r ≠ s → Stm s H H' → LA K H' r (psL ps) → Acy n ps → ps.length ≤ 10000 → Q (.ref r) H'
theorem d_family (T : Blt mg) (t : TD K mg "_law_family" s_law_family) (d__law_draw : Df P w K mg base 1 "_law_draw" spDraw) (d__law_mixed : Df P w K mg base 2 "_law_mixed" (spMixed K))
    (d__law_by_ranks : Df P w K mg base 1 "_law_by_ranks" (spByR K)) (d__law_by_parents : Df P w K mg base 1 "_law_by_parents" (spByP K)) (d__law_any_parents : Df P w K mg base 3 "_law_any_parents" (spParents K))
    (d__law_by_tree : Df P w K mg base 8 "_law_by_tree" (spByTree K 7)) (d__law_any_tree : Df P w K mg base 9 "_law_any_tree" (spTree K 7)) (d__law_by_arcs : Df P w K mg base 1 "_law_by_arcs" (spBy K byArcs)) (d__law_any_arcs : Df P w K mg base 2 "_law_any_arcs" (spArcs K))
    (d__law_by_spans : Df P w K mg base 1 "_law_by_spans" (spBy K bySpans)) (d__law_any_spans : Df P w K mg base 2 "_law_any_spans" (spSpans K)) (d__law_by_rows : Df P w K mg base 1 "_law_by_rows" (spByRows K))
    (d__law_crown : Df P w K mg base 3 "_law_crown" (spDrawn K 6 99)) (d__law_any_pairs : Df P w K mg base 3 "_law_any_pairs" (spDrawn K 0 99)) : Df P w K mg base 10 "_law_family" (spFamily K) := by
  refine df_mk t sc_law_family (fun _ _ _ _ _ _ us hl => match us, hl with | [_, _, _], _ => rfl) (fun vs H Q E h => ?_) (fun f cdv A outer s₀ H vs Q E hr h => ?_)
  · obtain ⟨s, n, k, rfl, _⟩ := h; rfl
  obtain ⟨s, n, k, rfl, hs, hn, q⟩ := h
  have nn : n * n ≤ 7 * 7 := Nat.mul_le_mul hn hn
  refine ⟨_, pss_cons (ps_if (pt_cmpR op_eq (pv 1) (pe_int) (nomark _))
      (pss_one (ps_ret (pe_lst pa_nil)))
      (pss_nil))
      (pss_cons (ps_if (pt_cmpR op_eq (pv 2) (pe_int) (nomark _))
      (pss_one (ps_ret (pe_df d__law_by_ranks hr (by decide) rfl (pa_cons (pe_lc (own := [("_law_k", 3)]) (g := gName 3) rfl sc_law_family.nd (pi_range1 rfl T.b_range (pa_cons (pv 1) pa_nil)) (blkOk_by (own := [("_law_k", 3)]) (N := N_law_family) (sc := defScope s_law_family) (by decide +kernel)) (fun _ _ _ _ _ => pg_name (i := 3) sc_law_family.nd rfl (by first | exact .inl rfl | exact .inr rfl)) (fun _ _ _ _ _ => pts_nil) (fun _ _ _ _ _ => pe_df d__law_draw hr (by decide) rfl (pa_cons (pv 0) (pa_cons (pe_int) pa_nil)))) pa_nil))))
      (pss_nil))
      (pss_cons (ps_if (pt_cmpR op_eq (pv 2) (pe_int) (nomark _))
      (pss_one (ps_ret (pe_df d__law_by_parents hr (by decide) rfl (pa_cons (pe_df d__law_any_parents hr (by decide) rfl (pa_cons (pv 0) (pa_cons (pv 1) pa_nil))) pa_nil))))
      (pss_nil))
      (pss_cons (ps_if (pt_cmpR op_eq (pv 2) (pe_int) (nomark _))
      (pss_one (ps_ret (pe_df d__law_by_tree hr (by decide) rfl (pa_cons (pe_df d__law_any_tree hr (by decide) rfl (pa_cons (pv 0) (pa_cons (pe_df d__law_mixed hr (by decide) rfl (pa_cons (pv 0) (pa_cons (pe_listRg rfl rfl T.b_list (prg_1 rfl T.b_range (pv 1))) pa_nil))) (pa_cons (pe_ix (ixK (K := K) rfl) (pe_lst (pa_cons (pe_str) (pa_cons (pe_str) pa_nil))) (pe_df d__law_draw hr (by decide) rfl (pa_cons (pv 0) (pa_cons (pe_int) pa_nil))) (fun _ _ => rfl)) pa_nil)))) pa_nil))))
      (pss_nil))
      (pss_cons (ps_if (pt_cmpR op_eq (pv 2) (pe_int) (nomark _))
      (pss_one (ps_ret (pe_df d__law_by_arcs hr (by decide) rfl (pa_cons (pe_df d__law_any_arcs hr (by decide) rfl (pa_cons (pv 0) (pa_cons (pv 1) pa_nil))) pa_nil))))
      (pss_nil))
      (pss_cons (ps_if (pt_cmpR op_eq (pv 2) (pe_int) (nomark _))
      (pss_one (ps_ret (pe_df d__law_by_spans hr (by decide) rfl (pa_cons (pe_df d__law_any_spans hr (by decide) rfl (pa_cons (pv 0) (pa_cons (pv 1) (pa_cons (pe_op op_add (pe_int) (pe_df d__law_draw hr (by decide) rfl (pa_cons (pv 0) (pa_cons (pe_int) pa_nil)))) (pa_cons (pe_un un_neg (pe_int)) pa_nil))))) pa_nil))))
      (pss_nil))
      (pss_cons (ps_if (pt_cmpR op_eq (pv 2) (pe_int) (nomark _))
      (pss_one (ps_ret (pe_df d__law_by_spans hr (by decide) rfl (pa_cons (pe_df d__law_any_spans hr (by decide) rfl (pa_cons (pv 0) (pa_cons (pv 1) (pa_cons (pe_op op_add (pe_int) (pe_df d__law_draw hr (by decide) rfl (pa_cons (pv 0) (pa_cons (pe_int) pa_nil)))) (pa_cons (pe_df d__law_draw hr (by decide) rfl (pa_cons (pv 0) (pa_cons (pe_int) pa_nil))) pa_nil))))) pa_nil))))
      (pss_nil))
      (pss_cons (ps_if (pt_cmpR op_eq (pv 2) (pe_int) (nomark _))
      (pss_one (ps_ret (pe_df d__law_by_rows hr (by decide) rfl (pa_cons (pe_df d__law_mixed hr (by decide) rfl (pa_cons (pv 0) (pa_cons (pe_listRg rfl rfl T.b_list (prg_1 rfl T.b_range (pv 1))) pa_nil))) (pa_cons (pe_df d__law_mixed hr (by decide) rfl (pa_cons (pv 0) (pa_cons (pe_listRg rfl rfl T.b_list (prg_1 rfl T.b_range (pv 1))) pa_nil))) pa_nil)))))
      (pss_nil))
      (pss_cons (ps_if (PW.pt (pw_and (pt_cmpR op_eq (pv 2) (pe_int) (nomark _)) (pw_and1 (pt_cmpR op_gt (pv 1) (pe_int) (nomark _)))))
      (pss_one (ps_ret (pe_df d__law_crown hr (by decide) rfl (pa_cons (pv 0) (pa_cons (pv 1) pa_nil)))))
      (pss_nil))
      (pss_one (ps_ret (pe_df d__law_any_pairs hr (by decide) rfl (pa_cons (pv 0) (pa_cons (pv 1) pa_nil))))))))))))), ?_⟩
  refine ⟨_, rfl, rfl, _, rfl, ite2 (fun c => ?_) (fun c => ?_)⟩
  · refine ⟨Nat.zero_le _, fun r nr => ?_⟩
    ktr_call (H1 e1 hr1) nr
    exact q r [] H1 nr (hs.ne nr) (Stm.of hs e1) ⟨_, hr1, .nil⟩ (acy_nil n) (Nat.zero_le _)
  have n0 : 0 < n := by
    rcases Nat.eq_zero_or_pos n with h | h
    · subst h
      exact absurd (decide_eq_true rfl) c
    · exact h
  clear c
  refine ⟨_, rfl, rfl, _, rfl, ite2 (fun c => ?_) (fun c => ?_)⟩
  · -- 1: ranks
    clear c
    refine ⟨_, rfl, _, rfl, by omega, by omega, fun L nL => ?_⟩
    rw [Int.toNat_natCast]
    refine lc_range (lo := 0) (n := n) (fun i H3 => ∃ ns, Stm s H H3 ∧ H3 L = some (.lst (vN ns)) ∧ ns.length = i) ⟨[], Stm.of hs (same_up nL), upd_same, rfl⟩ (fun i H3 hi ⟨ns, s3, h3, ln⟩ => ?_) (fun H3 ⟨ns, s3, h3, ln⟩ => ?_)
    · refine ⟨rfl, _, rfl, s, 4, rfl, s3.st, by decide, by decide, fun d H4 hd s4 => ?_⟩
      have Ls := hs.ne nL
      refine ⟨_, s4.keep _ _ Ls h3, szl (by rw [vN_len]; omega), ns ++ [d], (s3.trans s4).but but_up nL Ls, ?_, by rw [List.length_append, ln]; rfl⟩
      rw [upd_same]
      unfold vN
      rw [List.map_append]
      rfl
    · refine ⟨L, ns, rfl, .lst (SqL.of h3) (dpa_isL ns), by omega, fun r H4 nr s4 hL4 => q r _ H4 (s3.free nr) (s3.st.ne nr) (s3.then s4) hL4 (acy_ranks ln) ?_⟩
      have := byRanks_len ns
      rw [ln] at this
      omega
  clear c
  refine ⟨_, rfl, rfl, _, rfl, ite2 (fun c => ?_) (fun c => ?_)⟩
  · -- 2: parents
    clear c
    refine ⟨_, rfl, _, rfl, s, n, rfl, hs, by omega, fun L os H3 nL s3 hL lo A => ?_⟩
    refine ⟨L, os, rfl, hL.dp, by omega, fun r H4 nr s4 hL4 => q r _ H4 (s3.free nr) (s3.st.ne nr) (s3.then s4) hL4 A ?_⟩
    have := byPar_len os
    omega
  clear c
  refine ⟨_, rfl, rfl, _, rfl, ite2 (fun c => ?_) (fun c => ?_)⟩
  · -- 3: a tree
    clear c
    refine ⟨_, rfl, ?_⟩
    refine names_then rfl rfl hs (by omega) fun nm ns H3 nnm s3 nms h3 N => ?_
    refine ⟨sz (by show 2 ≤ 1000000; decide), fun u nu => ?_⟩
    ktr_call (H4 e4 h4) nu
    refine ⟨_, rfl, s, 2, rfl, s3.st.same e4, by decide, by decide, fun d H5 hd s5 => ?_⟩
    have us : u ≠ s := s3.st.ne nu
    have h5 := s5.keep _ _ us h4
    obtain ⟨wd, hwd, hw⟩ : ∃ wd : Str, ([V.str "beside", V.str "above"] : List V)[d]? = some (.str wd) ∧ (wd = "beside" ∨ wd = "above") := by
      match d, hd with
      | 0, _ => exact ⟨_, rfl, .inl rfl⟩
      | 1, _ => exact ⟨_, rfl, .inr rfl⟩
    refine .inl ⟨u, _, d, _, rfl, rfl, SqL.of h5, atn hwd, ?_⟩
    have S5 := (s3.then e4).trans s5
    have lN := N.len
    refine ⟨s, nm, wd, ns, rfl, s5.st, SqL.of (s5.keep _ _ nms (e4 _ _ h3)), nms, by omega, by omega, by omega, hw, fun v dd H6 s6 hd6 hT => ?_⟩
    refine ⟨v, dd, ns, rfl, hd6, hT, by omega, fun r ps H7 nr s7 hL7 B lp => q r ps H7 ((S5.trans s6).free nr) (s6.st.ne nr) ((S5.trans s6).then s7) hL7 (B.acy N) ?_⟩
    rw [lN] at lp
    omega
  clear c
  refine ⟨_, rfl, rfl, _, rfl, ite2 (fun c => ?_) (fun c => ?_)⟩
  · -- 4: arcs
    clear c
    refine ⟨_, rfl, _, rfl, s, n, rfl, hs, by omega, fun L ps H3 nL s3 hL lo A => ?_⟩
    refine ⟨L, ps, rfl, hL.dp, by omega, fun r H4 nr s4 hL4 => q r _ H4 (s3.free nr) (s3.st.ne nr) (s3.then s4) hL4 (acy_arcs lo A) ?_⟩
    have := byArcs_len ps
    rw [lo] at this
    omega
  clear c
  refine ⟨_, rfl, rfl, _, rfl, ite2 (fun c => ?_) (fun c => ?_)⟩
  · -- 5: spans of any length
    clear c
    refine ⟨_, rfl, _, rfl, _, rfl, s, 8, rfl, hs, by decide, by decide, fun d H2 hd s2 => ⟨_, _, rfl, rfl, ?_⟩⟩
    refine ⟨_, rfl, s, n, 2 + d, -1, rfl, s2.st, by omega, by omega, by omega, .inl (by decide), fun L ps H3 nL s3 hL lo A => ?_⟩
    refine ⟨L, ps, rfl, hL.dp, by omega, fun r H4 nr s4 hL4 => q r _ H4 ((s2.trans s3).free nr) (s3.st.ne nr) ((s2.trans s3).then s4) hL4 (acy_spans lo A) ?_⟩
    have := bySpans_len ps
    rw [lo] at this
    omega
  clear c
  refine ⟨_, rfl, rfl, _, rfl, ite2 (fun c => ?_) (fun c => ?_)⟩
  · -- 6: spans of one length
    clear c
    refine ⟨_, rfl, _, rfl, _, rfl, s, 12, rfl, hs, by decide, by decide, fun d H2 hd s2 => ⟨_, _, rfl, rfl, ?_⟩⟩
    refine ⟨_, rfl, s, 5, rfl, s2.st, by decide, by decide, fun e H3 he s3 => ?_⟩
    refine ⟨s, n, 2 + d, e, rfl, s3.st, by omega, by omega, by omega, .inr ⟨e, rfl⟩, fun L ps H4 nL s4 hL lo A => ?_⟩
    have S4 := (s2.trans s3).trans s4
    refine ⟨L, ps, rfl, hL.dp, by omega, fun r H5 nr s5 hL5 => q r _ H5 (S4.free nr) (S4.st.ne nr) (S4.then s5) hL5 (acy_spans lo A) ?_⟩
    have := bySpans_len ps
    rw [lo] at this
    omega
  clear c
  refine ⟨_, rfl, rfl, _, rfl, ite2 (fun c => ?_) (fun c => ?_)⟩
  · -- 7: two rows
    clear c
    refine names_then rfl rfl hs (by omega) fun nm ns H3 nnm s3 nms h3 N => ?_
    refine names_then rfl rfl s3.st (by omega) fun nm2 ns2 H4 nnm2 s4 nms2 h4 N2 => ?_
    refine ⟨nm, nm2, n, ns, ns2, rfl, SqL.of (s4.keep _ _ nms h3), SqL.of h4, N, N2, by omega, fun r ps H5 nr s5 hL A lp => q r ps H5 ((s3.trans s4).free nr) (s4.st.ne nr) ((s3.trans s4).then s5) hL A lp⟩
  clear c
  have last : ∀ (D : Ends), D.rt = Q → tRet (tCall (spDrawn K 0 99) [] E0 (tCons (tVar 0) (tCons (tVar 1) tNil))) D [some (.ref s), some (.int (n : Nat)), some (.int (k : Nat)), none] H := fun D eD => by
    refine ⟨_, rfl, _, rfl, s, n, rfl, hs, Nat.zero_le _, by omega, fun r ps H3 nr s3 hL A lp => ?_⟩
    rw [eD]
    exact q r ps H3 nr (hs.ne nr) s3 hL A lp
  refine ⟨_, rfl, rfl, _, rfl, ite2 (fun c => ⟨_, rfl, _, _, rfl, rfl, _, rfl, ite2 (fun c2 => ?_) (fun c2 => ?_)⟩) (fun c => ite2 (fun c2 => by cases c2) (fun c2 => ?_))⟩
  · have c2 := of_decide_eq_true c2
    refine ⟨_, rfl, _, rfl, s, n, rfl, hs, by omega, by omega, fun r ps H3 nr s3 hL A lp => q r ps H3 nr (hs.ne nr) s3 hL A lp⟩
  · exact last _ rfl
  · exact last _ rfl
abbrev s_law_any_order : Stmt := topS 83
abbrev N_law_any_order : List Str := ["_law_stream_here", "_law_most", "_law_size", "_law_pairs_here", "_law_table", "_law_kept", "_law_low", "_law_high"]
theorem sc_law_any_order : FnScope N_law_any_order ["_law_stream_here", "_law_most"] (defScope s_law_any_order) := ⟨rfl, rfl, rfl, by decide +kernel, rfl, by decide +kernel, by decide +kernel⟩
def spOrder (K : PySem.W.Frag) : Sp := fun vs H Q _ => ∃ s : Addr, vs = [.ref s, .int 7] ∧ Strm H s ∧ ∀ L n ps H', H L = none → Stm s H H' → Dp K H' (.ref L) (TabD n (cloK ps n)) → Acy n ps → n ≤ 7 → Q (.ref L) H'
theorem d_anyorder (T : Blt mg) (t : TD K mg "_law_any_order" s_law_any_order) (d__law_draw : Df P w K mg base 1 "_law_draw" spDraw) (d__law_family : Df P w K mg base 10 "_law_family" (spFamily K))
    (d__law_closed : Df P w K mg base 1 "_law_closed" (spClosed K)) : Df P w K mg base 11 "_law_any_order" (spOrder K) := by
  refine df_mk t sc_law_any_order (fun _ _ _ _ _ _ us hl => match us, hl with | [_, _], _ => rfl) (fun vs H Q E h => ?_) (fun f cdv A outer s₀ H vs Q E hr h => ?_)
  · obtain ⟨s, rfl, _⟩ := h; rfl
  obtain ⟨s, rfl, hs, q⟩ := h
  refine ⟨_, pss_cons (ps_set (i := 2) sc_law_any_order.nd rfl (.inl rfl) (pe_df d__law_draw hr (by decide) rfl (pa_cons (pv 0) (pa_cons (pe_op op_add (pv 1) (pe_int)) pa_nil))))
      (pss_cons (ps_if (pt_cmpR op_eq (pe_df d__law_draw hr (by decide) rfl (pa_cons (pv 0) (pa_cons (pe_int) pa_nil))) (pe_int) (nomark _))
      (pss_one (ps_set (i := 2) sc_law_any_order.nd rfl (.inl rfl) (pv 1)))
      (pss_nil))
      (pss_cons (ps_set (i := 3) sc_law_any_order.nd rfl (.inl rfl) (pe_df d__law_family hr (by decide) rfl (pa_cons (pv 0) (pa_cons (pv 2) (pa_cons (pe_df d__law_draw hr (by decide) rfl (pa_cons (pv 0) (pa_cons (pe_int) pa_nil))) pa_nil)))))
      (pss_cons (ps_set (i := 4) sc_law_any_order.nd rfl (.inl rfl) (pe_df d__law_closed hr (by decide) rfl (pa_cons (pv 2) (pa_cons (pv 3) pa_nil))))
      (pss_cons (ps_if (pt_cmpR op_eq (pe_df d__law_draw hr (by decide) rfl (pa_cons (pv 0) (pa_cons (pe_int) pa_nil))) (pe_int) (nomark _))
      (pss_cons (ps_set (i := 5) sc_law_any_order.nd rfl (.inl rfl) (pe_lst pa_nil))
      (pss_cons (ps_for PassesOwn.never rfl (pi_list (pv 3)) (pg_tup rfl (pgs_cons (pg_name (i := 6) sc_law_any_order.nd rfl (.inl rfl)) (pgs_cons (pg_name (i := 7) sc_law_any_order.nd rfl (.inl rfl)) pgs_nil)))
      (pss_one (ps_if (pt_cmpR op_gt (pe_df d__law_draw hr (by decide) rfl (pa_cons (pv 0) (pa_cons (pe_int) pa_nil))) (pe_int) (nomark _))
      (pss_one (ps_expr (pe_bm PySem.F.plainAttrs_list PySem.F.slot_list_append PySem.F.type_list_append mt_append (pv 5) (pa_cons (pe_tup (pa_cons (pv 6) (pa_cons (pv 7) pa_nil))) pa_nil))))
      (pss_nil))))
      (pss_one (ps_set (i := 4) sc_law_any_order.nd rfl (.inl rfl) (pe_df d__law_closed hr (by decide) rfl (pa_cons (pv 2) (pa_cons (pv 5) pa_nil)))))))
      (pss_nil))
      (pss_one (ps_ret (pv 4))))))), ?_⟩
  refine ⟨_, rfl, _, rfl, _, _, rfl, rfl, s, 8, rfl, hs, by decide, by decide, fun d H1 hd s1 => ?_⟩
  refine ⟨_, rfl, s, 3, rfl, s1.st, by decide, by decide, fun d2 H2 hd2 s2 => ?_⟩
  have S2 := s1.trans s2
  refine ⟨rfl, _, rfl, if_set (Good := fun σ' => ∃ n : Nat, n ≤ 7 ∧ σ' = [some (.ref s), some (.int 7), some (.int (n : Nat)), none, none, none, none, none]) (fun c => ⟨_, rfl, 7, Nat.le_refl _, rfl⟩) (fun c => ⟨d, by omega, rfl⟩) fun σ' G => ?_⟩
  obtain ⟨n, hn, rfl⟩ := G
  refine ⟨_, rfl, _, rfl, _, rfl, s, 11, rfl, S2.st, by decide, by decide, fun k H3 hk s3 => ?_⟩
  refine ⟨s, n, k, rfl, s3.st, hn, fun r ps H4 nr rs s4 hL A lp => ?_⟩
  have S4 := (S2.trans s3).trans s4
  refine ⟨_, rfl, _, rfl, n, r, ps, rfl, hL.dp, by omega, by omega, A.1, fun L H5 nL s5 hX => ?_⟩
  have S5 := S4.then s5
  refine ⟨_, rfl, s, 4, rfl, S5.st, by decide, by decide, fun d4 H6 hd4 s6 => ?_⟩
  have S6 := S5.trans s6
  refine ⟨rfl, _, rfl, ite2 (fun c => ?_) (fun c => ?_)⟩
  · clear c
    have hL6 : LA K H6 r (psL ps) := (hL.same s5).stm s6 S5.st rs (noLA_psL ps)
    obtain ⟨xs, hx, hl, hat⟩ := psL_at hL6.dp
    refine ⟨Nat.zero_le _, fun kp nkp => ?_⟩
    ktr_call (H7 e7 h7) nkp
    have S7 := S6.then e7
    have kps : kp ≠ s := s6.st.ne nkp
    refine ⟨_, rfl, r, rfl, ⟨_, e7.seq hx⟩, for_list (K := K) (a := r) (xs := xs) (fun i σ H8 => ∃ v6 v7 acc ks, σ = [some (.ref s), some (.int 7), some (.int (n : Nat)), some (.ref r), some (.ref L), some (.ref kp), v6, v7] ∧ Stm s H6 H8 ∧ Grow K H8 kp acc (psL ks) ∧ ks.length ≤ i ∧ ∀ p ∈ ks, p ∈ ps) ⟨none, none, [], [], rfl, Stm.of s6.st e7, .nil h7, Nat.zero_le _, fun p hp => by cases hp⟩ (fun i σ H8 _ ⟨_, _, _, _, _, s8, _⟩ => s8.sql hx rs) (fun i x σ H8 hxi hP => ?_) (fun σ H8 hP => ?_)⟩
    · obtain ⟨v6, v7, acc, ks, rfl, s8, g8, lk, sk⟩ := hP
      have hi : i < ps.length := by have := (List.getElem?_eq_some_iff.mp hxi).1; omega
      obtain ⟨tt, e1, htt⟩ := hat i ps[i] (List.getElem?_eq_getElem hi)
      rw [hxi] at e1
      cases e1
      refine ⟨tt, _, rfl, s8.sqt s6.st htt, rfl, _, _, rfl, _, _, rfl, rfl, ?_⟩
      refine ⟨_, rfl, s, 6, rfl, s8.st, by decide, by decide, fun d9 H9 hd9 s9 => ⟨_, _, rfl, rfl, _, rfl, ite2 (fun c => ?_) (fun c => ?_)⟩⟩
      · have g9 := g8.stm s9 s8.st kps (noLA_psL ks)
        have hg := g9.len
        rw [psL_len] at hg
        refine ⟨_, rfl, .inl ⟨rfl, _, SqL.of g9.at_⟩, _, rfl, _, rfl, sz (by show 2 ≤ 1000000; decide), fun t nt => ?_⟩
        ktr_call (HA eA hA) nt
        have gA := g9.same eA
        refine ⟨kp, acc, .ref t, rfl, rfl, gA.at_, szl (by omega), ?_⟩
        tbr_iter (HB bB hB)
        refine ⟨some (.int (ps[i].1 : Nat)), some (.int (ps[i].2 : Nat)), acc ++ [.ref t], ks ++ [ps[i]], rfl, ((s8.trans s9).then eA).but bB nkp kps, ?_, by rw [List.length_append, List.length_singleton]; omega, fun p hp => ?_⟩
        · rw [psL_snoc]
          exact gA.app (dp_pD_mk (p := ps[i]) hA) (.inl rfl) bB hB
        · rcases List.mem_append.mp hp with h | h
          · exact sk p h
          · rw [List.mem_singleton] at h
            rw [h]
            exact List.getElem_mem hi
      · exact ⟨_, _, acc, ks, rfl, s8.trans s9, g8.stm s9 s8.st kps (noLA_psL ks), by omega, sk⟩
    · obtain ⟨v6, v7, acc, ks, rfl, s8, g8, lk, sk⟩ := hP
      have AK := A.sub sk
      refine ⟨_, rfl, _, rfl, n, kp, ks, rfl, g8.la.dp, by omega, by omega, AK.1, fun L2 H9 nL2 s9 hX2 => ?_⟩
      have S8 := S6.trans s8
      exact ⟨_, rfl, q L2 n ks H9 (S8.free nL2) (S8.then s9) hX2 AK hn⟩
  · exact ⟨_, rfl, q L n ps H6 (S4.free nL) S6 (Stm.dp s6 S5.st _ _ (n3_TabD _ _) hX) A hn⟩

abbrev s_law_told : Stmt := topS 84
abbrev N_law_told : List Str := ["_law_stream_here", "_law_table", "_law_pairs_here", "_law_low", "_law_high"]
theorem sc_law_told : FnScope N_law_told ["_law_stream_here", "_law_table"] (defScope s_law_told) := ⟨rfl, rfl, rfl, by decide +kernel, rfl, by decide +kernel, by decide +kernel⟩
def spTold (K : PySem.W.Frag) : Sp := fun vs H Q _ => ∃ (s a : Addr) (n : Nat) (T : Nat → Nat → Bool), vs = [.ref s, .ref a] ∧ Strm H s ∧ Dp K H (.ref a) (TabD n T) ∧ n ≤ 40 ∧ ∀ r ps H', H r = none → Stm s H H' → LA K H' r (psL ps) → (∀ p ∈ ps, p.1 < n ∧ p.2 < n ∧ T p.1 p.2 = true) → (∀ i j, i < n → j < n → cov n T i j = true → (i, j) ∈ ps) → ps.length ≤ 2 * (n * n) → Q (.ref r) H'
theorem d_told (T : Blt mg) (t : TD K mg "_law_told" s_law_told) (d__law_draw : Df P w K mg base 1 "_law_draw" spDraw) (d__law_mixed : Df P w K mg base 2 "_law_mixed" (spMixed K))
    (d__law_pairs : Df P w K mg base 1 "_law_pairs" (spPairs K)) (d__law_covers : Df P w K mg base 1 "_law_covers" (spCov K)) : Df P w K mg base 3 "_law_told" (spTold K) := by
  refine df_mk t sc_law_told (fun _ _ _ _ _ _ us hl => match us, hl with | [_, _], _ => rfl) (fun vs H Q E h => ?_) (fun f cdv A outer s₀ H vs Q E hr h => ?_)
  · obtain ⟨s, a, n, X, rfl, _⟩ := h; rfl
  obtain ⟨s, a, n, X, rfl, hs, hX, hn, q⟩ := h
  refine ⟨_, pss_cons (ps_set (i := 2) sc_law_told.nd rfl (.inl rfl) (pe_lst pa_nil))
      (pss_cons (ps_for PassesOwn.never rfl (pi_list (pe_df d__law_pairs hr (by decide) rfl (pa_cons (pv 1) pa_nil))) (pg_tup rfl (pgs_cons (pg_name (i := 3) sc_law_told.nd rfl (.inl rfl)) (pgs_cons (pg_name (i := 4) sc_law_told.nd rfl (.inl rfl)) pgs_nil)))
      (pss_cons (ps_if (PW.pt (pw_or (pt_val (pe_df d__law_covers hr (by decide) rfl (pa_cons (pv 1) (pa_cons (pv 3) (pa_cons (pv 4) pa_nil))))) (pw_or1 (pt_cmpR op_eq (pe_df d__law_draw hr (by decide) rfl (pa_cons (pv 0) (pa_cons (pe_int) pa_nil))) (pe_int) (nomark _)))))
      (pss_one (ps_expr (pe_bm PySem.F.plainAttrs_list PySem.F.slot_list_append PySem.F.type_list_append mt_append (pv 2) (pa_cons (pe_tup (pa_cons (pv 3) (pa_cons (pv 4) pa_nil))) pa_nil))))
      (pss_nil))
      (pss_one (ps_if (pt_cmpR op_eq (pe_df d__law_draw hr (by decide) rfl (pa_cons (pv 0) (pa_cons (pe_int) pa_nil))) (pe_int) (nomark _))
      (pss_one (ps_expr (pe_bm PySem.F.plainAttrs_list PySem.F.slot_list_append PySem.F.type_list_append mt_append (pv 2) (pa_cons (pe_tup (pa_cons (pv 3) (pa_cons (pv 4) pa_nil))) pa_nil))))
      (pss_nil)))))
      (pss_one (ps_ret (pe_df d__law_mixed hr (by decide) rfl (pa_cons (pv 0) (pa_cons (pv 2) pa_nil)))))), ?_⟩
  refine ⟨Nat.zero_le _, fun kp nkp => ?_⟩
  ktr_call (H1 e1 h1) nkp
  have kps := hs.ne nkp
  refine ⟨_, rfl, a, n, X, rfl, Dp.same e1 _ _ hX, by omega, fun r H2 nr e2 hL => ?_⟩
  have e12 := e1.trans e2
  have rs : r ≠ s := (hs.same e1).ne nr
  have rkp : r ≠ kp := (ne_of_none h1 nr).symm
  have hs2 := hs.same e12
  have hX2 := Dp.same e12 _ _ hX
  obtain ⟨xs, hx, hl, hat⟩ := psL_at hL.dp
  have gl := grid_len n X n
  have nn : n * n ≤ 40 * 40 := Nat.mul_le_mul hn hn
  refine ⟨r, rfl, ⟨_, hx⟩, for_list (K := K) (a := r) (xs := xs) (fun i σ H8 => ∃ v6 v7 acc ks, σ = [some (.ref s), some (.ref a), some (.ref kp), v6, v7] ∧ Stk kp s H2 H8 ∧ Stm s H H8 ∧ Grow K H8 kp acc (psL ks) ∧ ks.length ≤ 2 * i ∧ (∀ p ∈ ks, p.1 < n ∧ p.2 < n ∧ X p.1 p.2 = true) ∧ ∀ p ∈ (grid n X n).take i, cov n X p.1 p.2 = true → p ∈ ks) ⟨none, none, [], [], rfl, .refl, Stm.of hs e12, .nil (e2 _ _ h1), Nat.zero_le _, fun p hp => (by cases hp), fun p hp => (by cases hp)⟩ (fun i σ H8 _ ⟨_, _, _, _, _, s8, _⟩ => s8.sql hx rs rkp) (fun i x σ H8 hxi hP => ?_) (fun σ H8 hP => ?_)⟩
  · obtain ⟨v6, v7, acc, ks, rfl, s8, s08, g8, lk, ak, ck⟩ := hP
    have hi : i < (grid n X n).length := by have := (List.getElem?_eq_some_iff.mp hxi).1; omega
    obtain ⟨tt, e1', htt⟩ := hat i (grid n X n)[i] (List.getElem?_eq_getElem hi)
    rw [hxi] at e1'
    cases e1'
    have hm := mem_grid.mp (List.getElem_mem hi)
    rw [List.take_add_one, List.getElem?_eq_getElem hi, Option.toList_some]
    generalize (grid n X n)[i] = p at hm htt
    obtain ⟨m1, m2, m3⟩ := hm
    -- the second test, from any state
    have fin2 : ∀ (H9 : Hp) (acc : List V) (ks : List (Nat × Nat)) (D : Ends), D.nx = (fun σ H8 => ∃ v6 v7 acc ks, σ = [some (.ref s), some (.ref a), some (.ref kp), v6, v7] ∧ Stk kp s H2 H8 ∧ Stm s H H8 ∧ Grow K H8 kp acc (psL ks) ∧ ks.length ≤ 2 * (i + 1) ∧ (∀ p ∈ ks, p.1 < n ∧ p.2 < n ∧ X p.1 p.2 = true) ∧ ∀ q ∈ (grid n X n).take i ++ [p], cov n X q.1 q.2 = true → q ∈ ks) →
        Stk kp s H2 H9 → Stm s H H9 → Grow K H9 kp acc (psL ks) → ks.length ≤ 2 * i + 1 → (∀ p ∈ ks, p.1 < n ∧ p.2 < n ∧ X p.1 p.2 = true) → (∀ q ∈ (grid n X n).take i ++ [p], cov n X q.1 q.2 = true → q ∈ ks) →
        tIfS (tTest (tOp rEq (tCall spDraw [] E0 (tCons (tVar 0) (tCons (tC (.int 8)) tNil))) (tC (.int 0)))) (tDrop (tBM K "list" rAppend (tVar 2) (tCons (tTup (tCons (tVar 3) (tCons (tVar 4) tNil))) tNil))) tNext D [some (.ref s), some (.ref a), some (.ref kp), some (.int (p.1 : Nat)), some (.int (p.2 : Nat))] H9 := by
      intro H9 acc ks D eD s9 s09 g9 lk ak ck
      refine ⟨_, rfl, s, 8, rfl, s09.st, by decide, by decide, fun d10 H10 hd10 s10 => ⟨rfl, _, rfl, ite2 (fun c => ?_) (fun c => ?_)⟩⟩
      · have g10 := g9.stm s10 s09.st kps (noLA_psL ks)
        have hg := g10.len
        rw [psL_len] at hg
        refine ⟨_, rfl, .inl ⟨rfl, _, SqL.of g10.at_⟩, _, rfl, _, rfl, sz (by show 2 ≤ 1000000; decide), fun t nt => ?_⟩
        ktr_call (HA eA hA) nt
        have gA := g10.same eA
        refine ⟨kp, acc, .ref t, rfl, rfl, gA.at_, szl (by omega), ?_⟩
        tbr_iter (HB bB hB)
        show D.nx _ HB
        rw [eD]
        refine ⟨_, _, acc ++ [.ref t], ks ++ [p], rfl, ((s9.stm s10).same eA).but bB, ((s09.trans s10).then eA).but bB nkp kps, ?_, by rw [List.length_append, List.length_singleton]; omega, fun p' hp => ?_, fun q hq hc => List.mem_append_left _ (ck q hq hc)⟩
        · rw [psL_snoc]
          exact gA.app (dp_pD_mk (p := p) hA) (.inl rfl) bB hB
        · rcases List.mem_append.mp hp with h | h
          · exact ak p' h
          · rw [List.mem_singleton] at h
            rw [h]
            exact ⟨m1, m2, m3⟩
      · show D.nx _ H10
        rw [eD]
        exact ⟨_, _, acc, ks, rfl, s9.stm s10, s09.trans s10, g9.stm s10 s09.st kps (noLA_psL ks), by omega, ak, ck⟩
    refine ⟨tt, _, rfl, s8.sqt hs2 (e2 _ _ h1) htt, rfl, _, _, rfl, _, _, rfl, rfl, ?_⟩
    -- covers(..) or a draw
    refine ⟨_, rfl, _, rfl, _, rfl, a, n, X, p.1, p.2, rfl, Stm.dp s08 hs _ _ (n3_TabD n X) hX, by omega, m1, m2, fun H9 e9 => ⟨_, rfl, ?_⟩⟩
    have add : ∀ (H10 : Hp) (D : Ends), D.nx = (fun σ H8 => ∃ v6 v7 acc ks, σ = [some (.ref s), some (.ref a), some (.ref kp), v6, v7] ∧ Stk kp s H2 H8 ∧ Stm s H H8 ∧ Grow K H8 kp acc (psL ks) ∧ ks.length ≤ 2 * (i + 1) ∧ (∀ p ∈ ks, p.1 < n ∧ p.2 < n ∧ X p.1 p.2 = true) ∧ ∀ q ∈ (grid n X n).take i ++ [p], cov n X q.1 q.2 = true → q ∈ ks) →
        Stk kp s H2 H10 → Stm s H H10 → Grow K H10 kp acc (psL ks) →
        tSeq (tDrop (tBM K "list" rAppend (tVar 2) (tCons (tTup (tCons (tVar 3) (tCons (tVar 4) tNil))) tNil))) (tIfS (tTest (tOp rEq (tCall spDraw [] E0 (tCons (tVar 0) (tCons (tC (.int 8)) tNil))) (tC (.int 0)))) (tDrop (tBM K "list" rAppend (tVar 2) (tCons (tTup (tCons (tVar 3) (tCons (tVar 4) tNil))) tNil))) tNext) D [some (.ref s), some (.ref a), some (.ref kp), some (.int (p.1 : Nat)), some (.int (p.2 : Nat))] H10 := by
      intro H10 D eD s10 s010 g10
      have hg := g10.len
      rw [psL_len] at hg
      refine ⟨_, rfl, .inl ⟨rfl, _, SqL.of g10.at_⟩, _, rfl, _, rfl, sz (by show 2 ≤ 1000000; decide), fun t nt => ?_⟩
      ktr_call (HA eA hA) nt
      have gA := g10.same eA
      refine ⟨kp, acc, .ref t, rfl, rfl, gA.at_, szl (by omega), ?_⟩
      tbr_iter (HB bB hB)
      refine fin2 HB (acc ++ [.ref t]) (ks ++ [p]) D eD ((s10.same eA).but bB) ((s010.then eA).but bB nkp kps) ?_ (by rw [List.length_append, List.length_singleton]; omega) (fun p' hp => ?_) (fun q hq hc => ?_)
      · rw [psL_snoc]
        exact gA.app (dp_pD_mk (p := p) hA) (.inl rfl) bB hB
      · rcases List.mem_append.mp hp with h | h
        · exact ak p' h
        · rw [List.mem_singleton] at h
          rw [h]
          exact ⟨m1, m2, m3⟩
      · rcases List.mem_append.mp hq with h | h
        · exact List.mem_append_left _ (ck q h hc)
        · exact List.mem_append_right _ h
    refine ite2 (fun c => ?_) (fun c => ?_)
    · exact add H9 _ (by exact rfl) (s8.same e9) (s08.then e9) (g8.same e9)
    · refine ⟨_, rfl, s, 3, rfl, (s08.then e9).st, by decide, by decide, fun d10 H10 hd10 s10 => ⟨rfl, _, rfl, ite2 (fun c2 => ?_) (fun c2 => ?_)⟩⟩
      · exact add H10 _ (by exact rfl) ((s8.same e9).stm s10) ((s08.then e9).trans s10) ((g8.same e9).stm s10 (s08.then e9).st kps (noLA_psL ks))
      · refine fin2 H10 acc ks _ (by exact rfl) ((s8.same e9).stm s10) ((s08.then e9).trans s10) ((g8.same e9).stm s10 (s08.then e9).st kps (noLA_psL ks)) (by omega) ak (fun q hq hc => ?_)
        rcases List.mem_append.mp hq with h | h
        · exact ck q h hc
        · rw [List.mem_singleton] at h
          rw [h] at hc
          exact absurd hc c
  · obtain ⟨v6, v7, acc, ks, rfl, s8, s08, g8, lk, ak, ck⟩ := hP
    have hg := g8.len
    rw [psL_len] at hg
    refine ⟨_, rfl, _, rfl, s, kp, acc, rfl, s08.st, SqL.of g8.at_, kps, by omega, fun r2 ys H9 nr2 s9 h9 pm => ?_⟩
    obtain ⟨es, pe, de⟩ := dpa_perm pm (Stm.dpAll s9 s08.st _ _ (n3A_of_noLA _ (noLA_psL ks)) g8.dat)
    obtain ⟨ps, pp, rfl⟩ := perm_map pe (ms := ks) rfl
    refine q r2 ps H9 (s08.free nr2) (s08.trans s9) ⟨ys, h9, de⟩ (fun p hp => ak p (pp.mem_iff.mp hp)) (fun i j hi hj hc => pp.mem_iff.mpr (ck (i, j) ?_ hc)) (by rw [pp.length_eq]; omega)
    rw [hl, List.take_length]
    refine mem_grid.mpr ⟨hi, hj, ?_⟩
    unfold cov at hc
    rw [Bool.and_eq_true] at hc
    exact hc.1
end
end K11
set_option maxHeartbeats 4000000

/-! B15: is_short, are_pairs, table_of, members, bars_four, bars. -/
namespace K11
open PySem PySem.Spec PyProof.Rows L2
theorem inV_vN (x : Nat) (ns : List Nat) : inV (.int (x : Nat)) (vN ns) = decide (x ∈ ns) := by
  unfold inV vN
  rw [List.any_map]
  have e : ((fun y => eqV y (V.int (x : Nat))) ∘ fun n : Nat => V.int (n : Nat)) = fun n : Nat => decide (x = n) := by
    funext n
    show ((n : Int) == (x : Int)) = decide (x = n)
    by_cases h : x = n
    · subst h; simp
    · rw [decide_eq_false h]
      exact beq_eq_false_iff_ne.mpr (by omega)
  rw [e]
  induction ns with
  | nil => simp
  | cons n ns ih => rw [List.any_cons, ih]; simp
theorem flat_vN (ns : List Nat) : (vN ns).all flatV = true := by
  unfold vN
  rw [List.all_map]
  exact List.all_eq_true.mpr fun _ _ => rfl
theorem vN_int (ns : List Nat) : vN ns = (ns.map fun n : Nat => (n : Int)).map V.int := by unfold vN; rw [List.map_map]; rfl
/-- each one differs from those ahead of it -/
def dst (ns : List Nat) : Bool := (List.range ns.length).all fun k => !decide (ns.getD k 0 ∈ ns.take k)
/-- four that bar a net -/
def bar4 (n : Nat) (T : Nat → Nat → Bool) (a b c d : Nat) : Bool := cov n T a c && cov n T b c && cov n T b d && !cov n T a d
theorem psT_at {K : PySem.W.Frag} {H : Hp} {a : Addr} {ps : List (Nat × Nat)} (h : Dp K H (.ref a) (.tuple (psL ps))) : ∃ xs, SqT K H a xs ∧ DpAll K H xs (psL ps) ∧ xs.length = ps.length := by
  obtain ⟨a', xs, e, h1, h2⟩ := dp_tup h
  cases e
  exact ⟨xs, h1, h2, by rw [dpa_len h2]; exact List.length_map _⟩
section
variable {P : Program} {w : World} {K : PySem.W.Frag} {mg : Str → Option Value} {base : Heap}
abbrev s_law_is_short : Stmt := topS 85
abbrev N_law_is_short : List Str := ["_law_actual"]
theorem sc_law_is_short : FnScope N_law_is_short ["_law_actual"] (defScope s_law_is_short) := ⟨rfl, rfl, rfl, by decide +kernel, rfl, by decide +kernel, by decide +kernel⟩
def spShort (K : PySem.W.Frag) : Sp := fun vs H Q _ => ∃ (a : Addr) (xs : List V), vs = [.ref a] ∧ SqT K H a xs ∧ xs.length ≤ 40 ∧ Q (.bl true) H
theorem d_isshort (T : Blt mg) (t : TD K mg "_law_is_short" s_law_is_short) : Df P w K mg base 1 "_law_is_short" (spShort K) := by
  refine df_mk t sc_law_is_short (fun _ _ _ _ _ _ us hl => match us, hl with | [_], _ => rfl) (fun vs H Q E h => ?_) (fun f cdv A outer s₀ H vs Q E hr h => ?_)
  · obtain ⟨a, xs, rfl, _⟩ := h; rfl
  obtain ⟨a, xs, rfl, hs, hn, q⟩ := h
  refine ⟨_, pss_one (ps_ret (pe_and (pe_callB (isiK (K := K) rfl) rfl T.b_isinstance (by decide +kernel) (pa_cons (pv 0) (pa_cons (pe_bltn (v := .ty "tuple") rfl T.b_tuple (by decide +kernel) rfl) pa_nil))) (pe_one (pe_cmpR op_le (pe_callB (lenK (K := K) rfl) rfl T.b_len (by decide +kernel) (pa_cons (pv 0) pa_nil)) (pe_int) (nomark _))))), ?_⟩
  refine ⟨_, rfl, _, _, _, _, true, rfl, .ty _, sqt_ty hs, kit_ty (by decide +kernel), true, rfl, _, rfl, a, xs, rfl, .inr hs, _, _, rfl, rfl, ?_⟩
  have e : decide (((xs.length : Nat) : Int) ≤ 40) = true := decide_eq_true (by omega)
  show Q (.bl (decide (((xs.length : Nat) : Int) ≤ 40))) H
  rw [e]
  exact q

abbrev s_law_are_pairs : Stmt := topS 86
abbrev N_law_are_pairs : List Str := ["_law_actual", "_law_item"]
theorem sc_law_are_pairs : FnScope N_law_are_pairs ["_law_actual"] (defScope s_law_are_pairs) := ⟨rfl, rfl, rfl, by decide +kernel, rfl, by decide +kernel, by decide +kernel⟩
def spArePairs (K : PySem.W.Frag) : Sp := fun vs H Q _ => ∃ (a : Addr) (ps : List (Nat × Nat)), vs = [.ref a] ∧ Dp K H (.ref a) (.tuple (psL ps)) ∧ ps.length ≤ 40 ∧ ∀ H', Same H H' → Q (.bl true) H'
theorem d_arepairs (T : Blt mg) (t : TD K mg "_law_are_pairs" s_law_are_pairs) (d__law_is_short : Df P w K mg base 1 "_law_is_short" (spShort K)) (d__law_are_integers : Df P w K mg base 2 "_law_are_integers" (spAreI K)) : Df P w K mg base 3 "_law_are_pairs" (spArePairs K) := by
  refine df_mk t sc_law_are_pairs (fun _ _ _ _ _ _ us hl => match us, hl with | [_], _ => rfl) (fun vs H Q E h => ?_) (fun f cdv A outer s₀ H vs Q E hr h => ?_)
  · obtain ⟨a, ps, rfl, _⟩ := h; rfl
  obtain ⟨a, ps, rfl, hX, hn, q⟩ := h
  refine ⟨_, pss_cons (ps_if (pt_not (pt_val (pe_df d__law_is_short hr (by decide) rfl (pa_cons (pv 0) pa_nil))))
      (pss_one (ps_ret (pe_bl)))
      (pss_nil))
      (pss_cons (ps_for PassesOwn.never rfl (pi_tup (pv 0)) (pg_name (i := 1) sc_law_are_pairs.nd rfl (.inl rfl))
      (pss_one (ps_if (PW.pt (pw_or (pt_not (pt_val (pe_callB (isiK (K := K) rfl) rfl T.b_isinstance (by decide +kernel) (pa_cons (pv 1) (pa_cons (pe_bltn (v := .ty "tuple") rfl T.b_tuple (by decide +kernel) rfl) pa_nil))))) (pw_or (pt_cmpR op_ne (pe_callB (lenK (K := K) rfl) rfl T.b_len (by decide +kernel) (pa_cons (pv 1) pa_nil)) (pe_int) (nomark _)) (pw_or1 (pt_not (pt_val (pe_df d__law_are_integers hr (by decide) rfl (pa_cons (pv 1) pa_nil))))))))
      (pss_one (ps_ret (pe_bl)))
      (pss_nil))))
      (pss_one (ps_ret (pe_bl)))), ?_⟩
  obtain ⟨xs, hs, hd, hl⟩ := psT_at hX
  refine ⟨_, rfl, a, xs, rfl, hs, by omega, _, rfl, ite2 (fun c => by cases c) (fun _ => ?_)⟩
  refine ⟨_, rfl, a, rfl, ⟨_, hs⟩, for_tup (K := K) (a := a) (xs := xs) (fun i σ H3 => ∃ v, σ = [some (.ref a), v] ∧ Same H H3) ⟨none, rfl, .refl _⟩ (fun i σ H3 _ ⟨_, _, s3⟩ => K11.Same.sqt s3 hs) (fun i x σ H3 hx hP => ?_) (fun σ H3 hP => ?_)⟩
  · obtain ⟨v, rfl, s3⟩ := hP
    obtain ⟨d, hdi, hxd⟩ := dpa_get hd hx
    obtain ⟨p, _, rfl⟩ := List.mem_map.mp (List.mem_of_getElem? hdi)
    obtain ⟨tt, rfl, ht⟩ := dp_pD hxd
    have ht3 := K11.Same.sqt s3 ht
    refine ⟨_, rfl, _, _, _, _, true, rfl, .ty _, sqt_ty ht3, kit_ty (by decide +kernel), true, rfl, ite2 (fun c => by cases c) (fun _ => ?_)⟩
    refine ⟨_, rfl, tt, _, rfl, .inr ht3, rfl, _, rfl, ite2 (fun c => by cases c) (fun _ => ?_)⟩
    refine ⟨_, rfl, tt, [(p.1 : Int), (p.2 : Int)], rfl, ht3, by show 2 ≤ 10000; decide, fun H4 s4 => ⟨_, rfl, ite2 (fun c => by cases c) (fun _ => ?_)⟩⟩
    exact ⟨_, rfl, s3.trans s4⟩
  · obtain ⟨v, rfl, s3⟩ := hP
    exact q H3 s3

abbrev s_law_table_of : Stmt := topS 93
abbrev N_law_table_of : List Str := ["_law_kind", "_law_actual", "_law_table", "_law_span", "_law_k"]
theorem sc_law_table_of : FnScope N_law_table_of ["_law_kind", "_law_actual"] (defScope s_law_table_of) := ⟨rfl, rfl, rfl, by decide +kernel, rfl, by decide +kernel, by decide +kernel⟩
def spTableOf (K : PySem.W.Frag) : Sp := fun vs H Q _ => ∃ (a : Addr) (ps : List (Nat × Nat)), vs = [.str "arcs", .ref a] ∧ Dp K H (.ref a) (.tuple (psL ps)) ∧ ps.length ≤ 40 ∧ (∀ k, k < ps.length → cloK (byArcs ps) ps.length k k = false) ∧ ∀ L H', H L = none → Same H H' → Dp K H' (.ref L) (TabD ps.length (cloK (byArcs ps) ps.length)) → Q (.ref L) H'
theorem byArcs_below (ps : List (Nat × Nat)) : Below ps.length (byArcs ps) := fun p hp => by
  obtain ⟨h1, h2, _⟩ := mem_grid.mp hp
  exact ⟨h1, h2⟩
theorem d_tableof (T : Blt mg) (t : TD K mg "_law_table_of" s_law_table_of) (d__law_is_short : Df P w K mg base 1 "_law_is_short" (spShort K)) (d__law_are_integers : Df P w K mg base 2 "_law_are_integers" (spAreI K)) (d__law_are_pairs : Df P w K mg base 3 "_law_are_pairs" (spArePairs K))
    (d__law_by_arcs : Df P w K mg base 1 "_law_by_arcs" (spBy K byArcs)) (d__law_closed : Df P w K mg base 1 "_law_closed" (spClosed K)) : Df P w K mg base 4 "_law_table_of" (spTableOf K) := by
  refine df_mk t sc_law_table_of (fun _ _ _ _ _ _ us hl => match us, hl with | [_, _], _ => rfl) (fun vs H Q E h => ?_) (fun f cdv A outer s₀ H vs Q E hr h => ?_)
  · obtain ⟨a, ps, rfl, _⟩ := h; rfl
  obtain ⟨a, ps, rfl, hX, hn, hk, q⟩ := h
  refine ⟨_, pss_cons (ps_set (i := 2) sc_law_table_of.nd rfl (.inr rfl) (pe_non))
      (pss_cons (ps_if (pt_cmpR op_eq (pv 0) (pe_str) (nomark _))
      (pss_one (ps_never))
      (pss_nil))
      (pss_cons (ps_if (pt_cmpR op_eq (pv 0) (pe_str) (nomark _))
      (pss_one (ps_never))
      (pss_nil))
      (pss_cons (ps_if (pt_cmpR op_eq (pv 0) (pe_str) (nomark _))
      (pss_one (ps_never))
      (pss_nil))
      (pss_cons (ps_if (pt_cmpR op_eq (pv 0) (pe_str) (nomark _))
      (pss_one (ps_never))
      (pss_nil))
      (pss_cons (ps_if (PW.pt (pw_and (pt_cmpR op_eq (pv 0) (pe_str) (nomark _)) (pw_and (pt_val (pe_df d__law_is_short hr (by decide) rfl (pa_cons (pv 1) pa_nil))) (pw_and1 (pt_val (pe_df d__law_are_integers hr (by decide) rfl (pa_cons (pv 1) pa_nil)))))))
      (pss_one (ps_never))
      (pss_nil))
      (pss_cons (ps_if (PW.pt (pw_and (pt_cmpR op_eq (pv 0) (pe_str) (nomark _)) (pw_and (pt_val (pe_df d__law_are_pairs hr (by decide) rfl (pa_cons (pv 1) pa_nil))) (pw_and1 (pt_val (pe_callB (allK (K := K) rfl rfl) rfl T.b_all (by decide +kernel) (pa_cons (pe_lc (own := [("_law_span", 3)]) (g := gName 3) rfl sc_law_table_of.nd (pi_tup (pv 1)) (blkOk_by (own := [("_law_span", 3)]) (N := N_law_table_of) (sc := defScope s_law_table_of) (by decide +kernel)) (fun _ _ _ _ _ => pg_name (i := 3) sc_law_table_of.nd rfl (by first | exact .inl rfl | exact .inr rfl)) (fun _ _ _ _ _ => pts_nil) (fun _ _ _ _ _ => pe_cmpR op_le (pe_ix (ixK (K := K) rfl) (pv 3) (pe_int) (fun _ _ => rfl)) (pe_ix (ixK (K := K) rfl) (pv 3) (pe_int) (fun _ _ => rfl)) (nomark _))) pa_nil)))))))
      (pss_one (ps_never))
      (pss_nil))
      (pss_cons (ps_if (PW.pt (pw_and (pt_cmpR op_eq (pv 0) (pe_str) (nomark _)) (pw_and1 (pt_val (pe_df d__law_are_pairs hr (by decide) rfl (pa_cons (pv 1) pa_nil))))))
      (pss_one (ps_set (i := 2) sc_law_table_of.nd rfl (.inr rfl) (pe_df d__law_closed hr (by decide) rfl (pa_cons (pe_callB (lenK (K := K) rfl) rfl T.b_len (by decide +kernel) (pa_cons (pv 1) pa_nil)) (pa_cons (pe_df d__law_by_arcs hr (by decide) rfl (pa_cons (pe_callTy (lstK (K := K) rfl) rfl T.b_list (by decide +kernel) (pa_cons (pv 1) pa_nil)) pa_nil)) pa_nil)))))
      (pss_nil))
      (pss_cons (ps_if (PW.pt (pw_and (pt_cmpR op_notN (pv 2) (pe_non) (nomark _)) (pw_and1 (pt_val (pe_callB (anyK (K := K) rfl rfl) rfl T.b_any (by decide +kernel) (pa_cons (pe_lc (own := [("_law_k", 4)]) (g := gName 4) rfl sc_law_table_of.nd (pi_range1 rfl T.b_range (pa_cons (pe_callB (lenK (K := K) rfl) rfl T.b_len (by decide +kernel) (pa_cons (pv 2) pa_nil)) pa_nil)) (blkOk_by (own := [("_law_k", 4)]) (N := N_law_table_of) (sc := defScope s_law_table_of) (by decide +kernel)) (fun _ _ _ _ _ => pg_name (i := 4) sc_law_table_of.nd rfl (by first | exact .inl rfl | exact .inr rfl)) (fun _ _ _ _ _ => pts_nil) (fun _ _ _ _ _ => pe_ix (ixK (K := K) rfl) (pe_ix (ixK (K := K) rfl) (pv 2) (pv 4) (fun _ _ => rfl)) (pv 4) (fun _ _ => rfl))) pa_nil))))))
      (pss_one (ps_never))
      (pss_nil))
      (pss_one (ps_ret (pv 2))))))))))), ?_⟩
  have no : ∀ x : Str, x ≠ "arcs" → ¬ decide (V.str "arcs" = V.str x) = true := fun x hx c => hx (V.str.inj (of_decide_eq_true c)).symm
  obtain ⟨xs, hs, hd, hl⟩ := psT_at hX
  refine ⟨_, rfl, rfl, _, rfl, ite2 (fun c => absurd c (no _ (by decide))) (fun _ => ?_)⟩
  refine ⟨_, rfl, rfl, _, rfl, ite2 (fun c => absurd c (no _ (by decide))) (fun _ => ?_)⟩
  refine ⟨_, rfl, rfl, _, rfl, ite2 (fun c => absurd c (no _ (by decide))) (fun _ => ?_)⟩
  refine ⟨_, rfl, rfl, _, rfl, ite2 (fun c => absurd c (no _ (by decide))) (fun _ => ?_)⟩
  refine ⟨_, rfl, rfl, _, rfl, ite2 (fun c => absurd c (no _ (by decide))) (fun _ => ite2 (fun c => by cases c) (fun _ => ?_))⟩
  refine ⟨_, rfl, rfl, _, rfl, ite2 (fun c => absurd c (no _ (by decide))) (fun _ => ite2 (fun c => by cases c) (fun _ => ?_))⟩
  refine ⟨_, rfl, rfl, _, rfl, ite2 (fun _ => ?_) (fun c => absurd (decide_eq_true rfl) c)⟩
  refine ⟨_, rfl, a, ps, rfl, hX, hn, fun H1 s1 => ⟨_, rfl, ite2 (fun _ => ?_) (fun c => absurd rfl c)⟩⟩
  have hs1 := K11.Same.sqt s1 hs
  refine ⟨_, rfl, a, xs, rfl, .inr hs1, _, rfl, a, xs, rfl, .inr hs1, fun l nl => ?_⟩
  ktr_call (H2 e2 h2) nl
  have s2 := s1.trans e2
  refine ⟨l, ps, rfl, .lst (SqL.of h2) (Dp.sameAll s2 _ _ hd), by omega, fun r H3 nr s3 hL => ?_⟩
  have bl := byArcs_len ps
  have nn : ps.length * ps.length ≤ 40 * 40 := Nat.mul_le_mul hn hn
  refine ⟨ps.length, r, byArcs ps, by rw [hl]; rfl, hL.dp, by omega, by omega, byArcs_below ps, fun L H4 nL s4 hT => ?_⟩
  have s14 := (s2.trans s3).trans s4
  refine ⟨_, rfl, rfl, _, rfl, ite2 (fun _ => ?_) (fun c => absurd rfl c)⟩
  obtain ⟨rows, hrows, lrows, _⟩ := tab_row hT
  refine ⟨_, rfl, L, rows, rfl, .inl hrows, lc_r1 (K := K) (n := ps.length) (by rw [lrows]) (by omega) (fun _ => true) (fun k => .bool (cloK (byArcs ps) ps.length k k)) (fun _ => rfl) (fun k H5 R _ s5 hR => hR H5 (.refl _)) (fun k H5 R hk5 _ s5 hR => ?_) (fun D H5 nD s5 hD => ?_)⟩
  · exact tabix (Dp.same s5 _ _ hT) hk5 hk5 rfl rfl rfl (hR _ H5 (.refl _) (.bl _) (.inl rfl))
  · have hb := la_bools (g := fun k => cloK (byArcs ps) ps.length k k) hD
    refine ⟨D, _, rfl, SqL.of hb, _, rfl, ?_⟩
    have e : ((((List.range ps.length).filter fun _ => true).map fun k => cloK (byArcs ps) ps.length k k).any id) = false := by
      rw [List.any_map, List.any_eq_false]
      intro k hk'
      have := hk k (List.mem_range.mp (List.mem_filter.mp hk').1)
      show ¬ cloK (byArcs ps) ps.length k k = true
      rw [this]
      exact Bool.false_ne_true
    rw [e]
    exact ite2 (fun c => by cases c) (fun _ => ⟨_, rfl, q L H5 ((s2.trans s3).free nL) (s14.trans s5) (Dp.same s5 _ _ hT)⟩)

abbrev s_law_members : Stmt := topS 94
abbrev N_law_members : List Str := ["_law_actual", "_law_size", "_law_count", "_law_item", "_law_k"]
theorem sc_law_members : FnScope N_law_members ["_law_actual", "_law_size", "_law_count"] (defScope s_law_members) := ⟨rfl, rfl, rfl, by decide +kernel, rfl, by decide +kernel, by decide +kernel⟩
def spMem (K : PySem.W.Frag) : Sp := fun vs H Q _ => ∃ (a : Addr) (n : Nat) (ns : List Nat), vs = [.ref a, .int n, .int 4] ∧ SqT K H a (vN ns) ∧ ns.length = 4 ∧ (∀ x ∈ ns, x < n) ∧ ∀ H', Same H H' → Q (.bl (dst ns)) H'
theorem d_members (T : Blt mg) (t : TD K mg "_law_members" s_law_members) (d__law_are_integers : Df P w K mg base 2 "_law_are_integers" (spAreI K)) : Df P w K mg base 3 "_law_members" (spMem K) := by
  refine df_mk t sc_law_members (fun _ _ _ _ _ _ us hl => match us, hl with | [_, _, _], _ => rfl) (fun vs H Q E h => ?_) (fun f cdv A outer s₀ H vs Q E hr h => ?_)
  · obtain ⟨a, n, ns, rfl, _⟩ := h; rfl
  obtain ⟨a, n, ns, rfl, hs, l4, hlt, q⟩ := h
  refine ⟨_, pss_cons (ps_if (PW.pt (pw_or (pt_not (pt_val (pe_callB (isiK (K := K) rfl) rfl T.b_isinstance (by decide +kernel) (pa_cons (pv 0) (pa_cons (pe_bltn (v := .ty "tuple") rfl T.b_tuple (by decide +kernel) rfl) pa_nil))))) (pw_or (pt_cmpR op_ne (pe_callB (lenK (K := K) rfl) rfl T.b_len (by decide +kernel) (pa_cons (pv 0) pa_nil)) (pv 2) (nomark _)) (pw_or1 (pt_not (pt_val (pe_df d__law_are_integers hr (by decide) rfl (pa_cons (pv 0) pa_nil))))))))
      (pss_one (ps_ret (pe_bl)))
      (pss_nil))
      (pss_cons (ps_if (pt_not (pt_val (pe_callB (allK (K := K) rfl rfl) rfl T.b_all (by decide +kernel) (pa_cons (pe_lc (own := [("_law_item", 3)]) (g := gName 3) rfl sc_law_members.nd (pi_tup (pv 0)) (blkOk_by (own := [("_law_item", 3)]) (N := N_law_members) (sc := defScope s_law_members) (by decide +kernel)) (fun _ _ _ _ _ => pg_name (i := 3) sc_law_members.nd rfl (by first | exact .inl rfl | exact .inr rfl)) (fun _ _ _ _ _ => pts_nil) (fun _ _ _ _ _ => pe_and (pe_cmpR op_le (pe_int) (pv 3) (nomark _)) (pe_one (pe_cmpR op_lt (pv 3) (pv 1) (nomark _))))) pa_nil))))
      (pss_one (ps_ret (pe_bl)))
      (pss_nil))
      (pss_one (ps_ret (pe_callB (allK (K := K) rfl rfl) rfl T.b_all (by decide +kernel) (pa_cons (pe_lc (own := [("_law_k", 4)]) (g := gName 4) rfl sc_law_members.nd (pi_range1 rfl T.b_range (pa_cons (pv 2) pa_nil)) (blkOk_by (own := [("_law_k", 4)]) (N := N_law_members) (sc := defScope s_law_members) (by decide +kernel)) (fun _ _ _ _ _ => pg_name (i := 4) sc_law_members.nd rfl (by first | exact .inl rfl | exact .inr rfl)) (fun _ _ _ _ _ => pts_nil) (fun _ _ _ _ _ => pe_cmpR (ninK (K := K) rfl) (pe_ix (ixK (K := K) rfl) (pv 0) (pv 4) (fun _ _ => rfl)) (pe_slice (slTK (K := K) rfl) (pv 0) po_none (po_some (pv 4))) rfl)) pa_nil))))), ?_⟩
  refine ⟨_, rfl, _, _, _, _, true, rfl, .ty _, sqt_ty hs, kit_ty (by decide +kernel), true, rfl, ite2 (fun c => by cases c) (fun _ => ?_)⟩
  refine ⟨_, rfl, a, _, rfl, .inr hs, _, rfl, rfl, _, rfl, ite2 (fun c => ?_) (fun _ => ?_)⟩
  · rw [vN_len, l4] at c
    exact absurd c (by decide)
  refine ⟨_, rfl, a, ns.map fun n : Nat => (n : Int), rfl, by rw [← vN_int]; exact hs, by rw [List.length_map]; omega, fun H1 s1 => ⟨_, rfl, ite2 (fun c => by cases c) (fun _ => ?_)⟩⟩
  have hs1 := K11.Same.sqt s1 hs
  -- all within
  refine ⟨_, rfl, a, rfl, ⟨_, hs1⟩, fun D hD => lc_tup (K := K) (a := a) (xs := vN ns) (fun i H3 => Same H1 H3 ∧ H3 D = some (.lst ((List.replicate i true).map V.bl))) ⟨same_up hD, upd_same⟩ (fun i H3 _ ⟨s3, _⟩ => K11.Same.sqt s3 hs1) (fun i x H3 hx ⟨s3, hL⟩ => ?_) (fun H3 ⟨s3, hL⟩ => ?_)⟩
  · have hi : i < ns.length := by have := (List.getElem?_eq_some_iff.mp hx).1; rw [vN_len] at this; exact this
    rw [vN_at hi] at hx
    cases hx
    have hin := hlt _ (List.getElem_mem hi)
    refine ⟨rfl, _, rfl, _, _, rfl, rfl, _, rfl, ?_⟩
    rw [decide_eq_true (show (0 : Int) ≤ (ns[i] : Nat) by omega)]
    refine ite2 (fun _ => ?_) (fun c => absurd rfl c)
    refine ⟨_, rfl, _, rfl, _, _, rfl, rfl, ?_⟩
    have e : decide (((ns[i] : Nat) : Int) < (n : Nat)) = true := decide_eq_true (by omega)
    refine ⟨_, hL, szl (by rw [List.length_map, List.length_replicate]; omega), K11.Same.mut s3 hD, ?_⟩
    rw [upd_same, List.replicate_succ', List.map_append]
    show some (HO.lst (_ ++ [V.bl (decide (((ns[i] : Nat) : Int) < (n : Nat)))])) = _
    rw [e]
    rfl
  refine ⟨D, _, rfl, SqL.of hL, _, rfl, ?_⟩
  have e : (List.replicate (vN ns).length true).all id = true := by simp
  rw [e]
  refine ite2 (fun c => by cases c) (fun _ => ?_)
  have s03 := s1.trans s3
  have hs3 := K11.Same.sqt s03 hs
  refine ⟨_, rfl, lc_r1 (K := K) (n := 4) rfl (by omega) (fun _ => true) (fun k => .bool (!decide (ns.getD k 0 ∈ ns.take k))) (fun _ => rfl) (fun k H5 R _ s5 hR => hR H5 (.refl _)) (fun k H5 R hk5 _ s5 hR => ?_) (fun D2 H5 nD s5 hD2 => ?_)⟩
  · have hs5 := K11.Same.sqt s5 hs3
    have hk5 : k < ns.length := by omega
    refine ⟨_, rfl, _, rfl, .inr (.inl ⟨a, _, k, _, rfl, rfl, hs5, atn (vN_d hk5), ?_⟩)⟩
    refine ⟨_, rfl, _, rfl, _, rfl, a, _, rfl, hs5, fun hw => ?_, fun _ u nu => ?_⟩
    · have := hw.2
      rw [HT.sIx_nat, vN_len] at this
      omega
    · rw [cut_take]
      ktr_call (H6 e6 h6) nu
      refine ⟨u, _, rfl, .inr (SqT.of h6), rfl, flat_vN _, ?_⟩
      rw [inV_vN]
      exact hR _ H6 e6 (.bl _) (.inl rfl)
  · have hb := la_bools (g := fun k => !decide (ns.getD k 0 ∈ ns.take k)) hD2
    refine ⟨D2, _, rfl, SqL.of hb, ?_⟩
    have e : ((((List.range 4).filter fun _ => true).map fun k => !decide (ns.getD k 0 ∈ ns.take k)).all id) = dst ns := by
      unfold dst
      rw [l4, List.all_map]
      rfl
    rw [e]
    exact q H5 (s03.trans s5)

abbrev s_law_bars_four : Stmt := topS 96
abbrev N_law_bars_four : List Str := ["_law_table", "_law_kind", "_law_actual", "_law_a", "_law_b", "_law_c", "_law_d", "_law_two"]
theorem sc_law_bars_four : FnScope N_law_bars_four ["_law_table", "_law_kind", "_law_actual"] (defScope s_law_bars_four) := ⟨rfl, rfl, rfl, by decide +kernel, rfl, by decide +kernel, by decide +kernel⟩
def spBars4 (K : PySem.W.Frag) : Sp := fun vs H Q _ => ∃ (L a : Addr) (n : Nat) (X : Nat → Nat → Bool) (i j k l : Nat), vs = [.ref L, .str "arcs", .ref a] ∧ Dp K H (.ref L) (TabD n X) ∧ SqT K H a (vN [i, j, k, l]) ∧ n ≤ 100 ∧ i < n ∧ j < n ∧ k < n ∧ l < n ∧ ∀ H', Same H H' → Q (.bl (bar4 n X i j k l)) H'
theorem d_bars4 (T : Blt mg) (t : TD K mg "_law_bars_four" s_law_bars_four) (d__law_covers : Df P w K mg base 1 "_law_covers" (spCov K)) : Df P w K mg base 2 "_law_bars_four" (spBars4 K) := by
  refine df_mk t sc_law_bars_four (fun _ _ _ _ _ _ us hl => match us, hl with | [_, _, _], _ => rfl) (fun vs H Q E h => ?_) (fun f cdv A outer s₀ H vs Q E hr h => ?_)
  · obtain ⟨L, a, n, X, i, j, k, l, rfl, _⟩ := h; rfl
  obtain ⟨L, a, n, X, i, j, k, l, rfl, hX, hs, hn, hi, hj, hk, hl, q⟩ := h
  refine ⟨_, pss_cons (ps_asg (pv 2) (pg_tup rfl (pgs_cons (pg_name (i := 3) sc_law_bars_four.nd rfl (.inl rfl)) (pgs_cons (pg_name (i := 4) sc_law_bars_four.nd rfl (.inl rfl)) (pgs_cons (pg_name (i := 5) sc_law_bars_four.nd rfl (.inl rfl)) (pgs_cons (pg_name (i := 6) sc_law_bars_four.nd rfl (.inl rfl)) pgs_nil))))))
      (pss_cons (ps_if (pt_cmpR op_eq (pv 1) (pe_str) (nomark _))
      (pss_never)
      (pss_nil))
      (pss_cons (ps_if (pt_cmpR op_eq (pv 1) (pe_str) (nomark _))
      (pss_cons (ps_if (PW.pt (pw_or (pt_not (pt_val (pe_df d__law_covers hr (by decide) rfl (pa_cons (pv 0) (pa_cons (pv 3) (pa_cons (pv 5) pa_nil)))))) (pw_or (pt_not (pt_val (pe_df d__law_covers hr (by decide) rfl (pa_cons (pv 0) (pa_cons (pv 4) (pa_cons (pv 5) pa_nil)))))) (pw_or1 (pt_not (pt_val (pe_df d__law_covers hr (by decide) rfl (pa_cons (pv 0) (pa_cons (pv 4) (pa_cons (pv 6) pa_nil))))))))))
      (pss_one (ps_ret (pe_bl)))
      (pss_nil))
      (pss_one (ps_ret (pe_not (pe_df d__law_covers hr (by decide) rfl (pa_cons (pv 0) (pa_cons (pv 3) (pa_cons (pv 6) pa_nil))))))))
      (pss_nil))
      (pss_cons (ps_never)
      (pss_cons (ps_if (pt_cmpR op_eq (pv 1) (pe_str) (nomark _))
      (pss_one (ps_never))
      (pss_nil))
      (pss_one (ps_never)))))), ?_⟩
  have no : ∀ x : Str, x ≠ "arcs" → ¬ decide (V.str "arcs" = V.str x) = true := fun x hx c => hx (V.str.inj (of_decide_eq_true c)).symm
  refine ⟨_, rfl, a, _, rfl, hs, rfl, _, _, rfl, _, _, rfl, _, _, rfl, _, _, rfl, rfl, ?_⟩
  refine ⟨_, rfl, rfl, _, rfl, ite2 (fun c => absurd c (no _ (by decide))) (fun _ => ?_)⟩
  refine ⟨_, rfl, rfl, _, rfl, ite2 (fun _ => ?_) (fun c => absurd (decide_eq_true rfl) c)⟩
  unfold bar4 at q
  refine ⟨_, rfl, _, rfl, _, rfl, L, n, X, i, k, rfl, hX, hn, hi, hk, fun H1 s1 => ⟨_, rfl, ?_⟩⟩
  cases e1 : cov n X i k with
  | false =>
    rw [e1] at q
    exact q H1 s1
  | true =>
    rw [e1] at q
    refine ite2 (fun c => by cases c) (fun _ => ?_)
    refine ⟨_, rfl, _, rfl, _, rfl, L, n, X, j, k, rfl, Dp.same s1 _ _ hX, hn, hj, hk, fun H2 s2 => ⟨_, rfl, ?_⟩⟩
    have s12 := s1.trans s2
    cases e2 : cov n X j k with
    | false =>
      rw [e2] at q
      exact q H2 s12
    | true =>
      rw [e2] at q
      refine ite2 (fun c => by cases c) (fun _ => ?_)
      refine ⟨_, rfl, _, rfl, _, rfl, L, n, X, j, l, rfl, Dp.same s12 _ _ hX, hn, hj, hl, fun H3 s3 => ⟨_, rfl, ?_⟩⟩
      have s13 := s12.trans s3
      cases e3 : cov n X j l with
      | false =>
        rw [e3] at q
        exact q H3 s13
      | true =>
        rw [e3] at q
        refine ite2 (fun c => by cases c) (fun _ => ?_)
        refine ⟨_, rfl, _, rfl, _, rfl, L, n, X, i, l, rfl, Dp.same s13 _ _ hX, hn, hi, hl, fun H4 s4 => ⟨_, rfl, q H4 (s13.trans s4)⟩⟩

abbrev s_law_bars : Stmt := topS 97
abbrev N_law_bars : List Str := ["_law_table", "_law_kind", "_law_actual", "_law_a", "_law_b", "_law_c"]
theorem sc_law_bars : FnScope N_law_bars ["_law_table", "_law_kind", "_law_actual"] (defScope s_law_bars) := ⟨rfl, rfl, rfl, by decide +kernel, rfl, by decide +kernel, by decide +kernel⟩
def spBars (K : PySem.W.Frag) : Sp := fun vs H Q _ => ∃ (L a : Addr) (n : Nat) (X : Nat → Nat → Bool) (i j k l : Nat), vs = [.ref L, .str "arcs", .ref a] ∧ Dp K H (.ref L) (TabD n X) ∧ SqT K H a (vN [i, j, k, l]) ∧ n ≤ 100 ∧ i < n ∧ j < n ∧ k < n ∧ l < n ∧ ∀ H', Same H H' → Q (.bl (dst [i, j, k, l] && bar4 n X i j k l)) H'
theorem d_bars (T : Blt mg) (t : TD K mg "_law_bars" s_law_bars) (d__law_members : Df P w K mg base 3 "_law_members" (spMem K)) (d__law_bars_four : Df P w K mg base 2 "_law_bars_four" (spBars4 K)) : Df P w K mg base 4 "_law_bars" (spBars K) := by
  refine df_mk t sc_law_bars (fun _ _ _ _ _ _ us hl => match us, hl with | [_, _, _], _ => rfl) (fun vs H Q E h => ?_) (fun f cdv A outer s₀ H vs Q E hr h => ?_)
  · obtain ⟨L, a, n, X, i, j, k, l, rfl, _⟩ := h; rfl
  obtain ⟨L, a, n, X, i, j, k, l, rfl, hX, hs, hn, hi, hj, hk, hl, q⟩ := h
  refine ⟨_, pss_cons (ps_if (pt_cmpR op_eq (pv 1) (pe_str) (nomark _))
      (pss_one (ps_never))
      (pss_nil))
      (pss_cons (ps_if (PW.pt (pw_or (pt_cmpR op_eq (pv 1) (pe_str) (nomark _)) (pw_or1 (pt_cmpR op_eq (pv 1) (pe_str) (nomark _)))))
      (pss_never)
      (pss_nil))
      (pss_one (ps_ret (pe_and (pe_df d__law_members hr (by decide) rfl (pa_cons (pv 2) (pa_cons (pe_callB (lenK (K := K) rfl) rfl T.b_len (by decide +kernel) (pa_cons (pv 0) pa_nil)) (pa_cons (pe_int) pa_nil)))) (pe_one (pe_df d__law_bars_four hr (by decide) rfl (pa_cons (pv 0) (pa_cons (pv 1) (pa_cons (pv 2) pa_nil))))))))), ?_⟩
  have no : ∀ x : Str, x ≠ "arcs" → ¬ decide (V.str "arcs" = V.str x) = true := fun x hx c => hx (V.str.inj (of_decide_eq_true c)).symm
  obtain ⟨rows, hrows, lrows, _⟩ := tab_row hX
  refine ⟨_, rfl, rfl, _, rfl, ite2 (fun c => absurd c (no _ (by decide))) (fun _ => ?_)⟩
  refine ⟨_, rfl, rfl, _, rfl, ite2 (fun c => absurd c (no _ (by decide))) (fun _ => ?_)⟩
  refine ⟨_, rfl, rfl, _, rfl, ite2 (fun c => absurd c (no _ (by decide))) (fun _ => ?_)⟩
  refine ⟨_, rfl, _, rfl, L, rows, rfl, .inl hrows, a, n, [i, j, k, l], by rw [lrows]; rfl, hs, rfl, fun x hx => ?_, fun H1 s1 => ⟨_, rfl, ?_⟩⟩
  · simp only [List.mem_cons, List.not_mem_nil, or_false] at hx
    rcases hx with rfl | rfl | rfl | rfl <;> assumption
  cases e : dst [i, j, k, l] with
  | false =>
    rw [e] at q
    exact q H1 s1
  | true =>
    rw [e] at q
    refine ite2 (fun _ => ?_) (fun c => absurd rfl c)
    exact ⟨_, rfl, _, rfl, _, rfl, L, a, n, X, i, j, k, l, rfl, Dp.same s1 _ _ hX, K11.Same.sqt s1 hs, hn, hi, hj, hk, hl, fun H2 s2 => q H2 (s1.trans s2)⟩
end
end K11
set_option maxHeartbeats 4000000

/-! B16: has_bar, right. -/
namespace K11
open PySem PySem.Spec PyProof.Rows L2
def Bar (n : Nat) (X : Nat → Nat → Bool) (i j k l : Nat) : Bool := dst [i, j, k, l] && bar4 n X i j k l
theorem dst_iff {i j k l : Nat} : dst [i, j, k, l] = true ↔ i ≠ j ∧ i ≠ k ∧ i ≠ l ∧ j ≠ k ∧ j ≠ l ∧ k ≠ l := by
  unfold dst
  simp only [List.length_cons, List.length_nil, List.range_succ, List.range_zero, List.nil_append, List.cons_append, List.all_cons, List.all_nil, List.take_succ_cons, List.take_zero, Bool.and_true, Bool.and_eq_true, Bool.not_eq_true', decide_eq_false_iff_not, List.mem_cons, List.not_mem_nil, or_false, not_or]
  simp
  constructor
  · rintro ⟨h1, ⟨h2, h3⟩, h4, h5, h6⟩
    exact ⟨Ne.symm h1, Ne.symm h2, Ne.symm h4, Ne.symm h3, Ne.symm h5, Ne.symm h6⟩
  · rintro ⟨h1, h2, h3, h4, h5, h6⟩
    exact ⟨Ne.symm h1, ⟨Ne.symm h2, Ne.symm h4⟩, Ne.symm h3, Ne.symm h5, Ne.symm h6⟩
theorem Bar.ne {n : Nat} {X : Nat → Nat → Bool} {i j k l : Nat} (h : Bar n X i j k l = true) : i ≠ j ∧ i ≠ k ∧ j ≠ k := by
  unfold Bar at h
  rw [Bool.and_eq_true] at h
  have := dst_iff.mp h.1
  exact ⟨this.1, this.2.1, this.2.2.2.1⟩
section
variable {P : Program} {w : World} {K : PySem.W.Frag} {mg : Str → Option Value} {base : Heap}
abbrev s_law_has_bar : Stmt := topS 98
abbrev N_law_has_bar : List Str := ["_law_table", "_law_kind", "_law_size", "_law_a", "_law_b", "_law_c", "_law_other", "_law_d"]
theorem sc_law_has_bar : FnScope N_law_has_bar ["_law_table", "_law_kind"] (defScope s_law_has_bar) := ⟨rfl, rfl, rfl, by decide +kernel, rfl, by decide +kernel, by decide +kernel⟩
def spHasBar (K : PySem.W.Frag) : Sp := fun vs H Q _ => ∃ (L : Addr) (n : Nat) (X : Nat → Nat → Bool), vs = [.ref L, .str "arcs"] ∧ Dp K H (.ref L) (TabD n X) ∧ n ≤ 100 ∧ ∀ b H', Same H H' → (b = true ↔ ∃ i j k l, i < n ∧ j < n ∧ k < n ∧ l < n ∧ Bar n X i j k l = true) → Q (.bl b) H'
theorem d_hasbar (T : Blt mg) (t : TD K mg "_law_has_bar" s_law_has_bar) (d__law_bars : Df P w K mg base 4 "_law_bars" (spBars K)) : Df P w K mg base 5 "_law_has_bar" (spHasBar K) := by
  refine df_mk t sc_law_has_bar (fun _ _ _ _ _ _ us hl => match us, hl with | [_, _], _ => rfl) (fun vs H Q E h => ?_) (fun f cdv A outer s₀ H vs Q E hr h => ?_)
  · obtain ⟨L, n, X, rfl, _⟩ := h; rfl
  obtain ⟨L, n, X, rfl, hX, hn, q⟩ := h
  refine ⟨_, pss_cons (ps_set (i := 2) sc_law_has_bar.nd rfl (.inl rfl) (pe_callB (lenK (K := K) rfl) rfl T.b_len (by decide +kernel) (pa_cons (pv 0) pa_nil)))
      (pss_cons (ps_if (PW.pt (pw_or (pt_cmpR op_eq (pv 1) (pe_str) (nomark _)) (pw_or1 (pt_cmpR op_eq (pv 1) (pe_str) (nomark _)))))
      (pss_never)
      (pss_nil))
      (pss_cons (ps_for PassesOwn.never rfl (pi_range1 rfl T.b_range (pa_cons (pv 2) pa_nil)) (pg_name (i := 3) sc_law_has_bar.nd rfl (.inr rfl))
      (pss_one (ps_for PassesOwn.never rfl (pi_list (pe_lc (own := [("_law_other", 6)]) (g := gName 6) rfl sc_law_has_bar.nd (pi_range1 rfl T.b_range (pa_cons (pv 2) pa_nil)) (blkOk_by (own := [("_law_other", 6)]) (N := N_law_has_bar) (sc := defScope s_law_has_bar) (by decide +kernel)) (fun _ _ _ _ _ => pg_name (i := 6) sc_law_has_bar.nd rfl (by first | exact .inl rfl | exact .inr rfl)) (fun _ _ _ _ _ => pts_one (pt_cmpR op_ne (pv 6) (pv 3) (nomark _))) (fun _ _ _ _ _ => pv 6))) (pg_name (i := 4) sc_law_has_bar.nd rfl (.inr rfl))
      (pss_one (ps_for PassesOwn.never rfl (pi_list (pe_lc (own := [("_law_other", 6)]) (g := gName 6) rfl sc_law_has_bar.nd (pi_range1 rfl T.b_range (pa_cons (pv 2) pa_nil)) (blkOk_by (own := [("_law_other", 6)]) (N := N_law_has_bar) (sc := defScope s_law_has_bar) (by decide +kernel)) (fun _ _ _ _ _ => pg_name (i := 6) sc_law_has_bar.nd rfl (by first | exact .inl rfl | exact .inr rfl)) (fun _ _ _ _ _ => pts_one (PW.pt (pw_and (pt_cmpR op_ne (pv 6) (pv 3) (nomark _)) (pw_and1 (pt_cmpR op_ne (pv 6) (pv 4) (nomark _)))))) (fun _ _ _ _ _ => pv 6))) (pg_name (i := 5) sc_law_has_bar.nd rfl (.inr rfl))
      (pss_one (ps_if (pt_val (pe_callB (anyK (K := K) rfl rfl) rfl T.b_any (by decide +kernel) (pa_cons (pe_lc (own := [("_law_d", 7)]) (g := gName 7) rfl sc_law_has_bar.nd (pi_range1 rfl T.b_range (pa_cons (pv 2) pa_nil)) (blkOk_by (own := [("_law_d", 7)]) (N := N_law_has_bar) (sc := defScope s_law_has_bar) (by decide +kernel)) (fun _ _ _ _ _ => pg_name (i := 7) sc_law_has_bar.nd rfl (by first | exact .inl rfl | exact .inr rfl)) (fun _ _ _ _ _ => pts_nil) (fun _ _ _ _ _ => pe_df d__law_bars hr (by decide) rfl (pa_cons (pv 0) (pa_cons (pv 1) (pa_cons (pe_tup (pa_cons (pv 3) (pa_cons (pv 4) (pa_cons (pv 5) (pa_cons (pv 7) pa_nil))))) pa_nil))))) pa_nil)))
      (pss_one (ps_ret (pe_bl)))
      (pss_nil))))))))
      (pss_one (ps_ret (pe_bl))))), ?_⟩
  have no : ∀ x : Str, x ≠ "arcs" → ¬ decide (V.str "arcs" = V.str x) = true := fun x hx c => hx (V.str.inj (of_decide_eq_true c)).symm
  obtain ⟨rows, hrows, lrows, _⟩ := tab_row hX
  refine ⟨_, rfl, L, rows, rfl, .inl hrows, ?_⟩
  rw [lrows]
  refine ⟨_, rfl, rfl, _, rfl, ite2 (fun c => absurd c (no _ (by decide))) (fun _ => ?_)⟩
  refine ⟨_, rfl, rfl, _, rfl, ite2 (fun c => absurd c (no _ (by decide))) (fun _ => ?_)⟩
  refine ⟨_, rfl, for_r1 (n := n) rfl (by omega) (fun a σ H3 => ∃ v3 v4 v5, σ = [some (.ref L), some (.str "arcs"), some (.int (n : Nat)), v3, v4, v5, none, none] ∧ Same H H3 ∧ ∀ i j k l, i < a → j < n → k < n → l < n → Bar n X i j k l = false) ⟨none, none, none, rfl, .refl _, fun i j k l h => absurd h (Nat.not_lt_zero _)⟩ (fun a σ H3 ha hP => ?_) (fun σ H3 hP => ?_)⟩
  · obtain ⟨v3, v4, v5, rfl, s3, no1⟩ := hP
    refine ⟨_, rfl, lc_r1 (K := K) (n := n) rfl (by omega) (fun z => !decide (z = a)) iD (fun _ => rfl) (fun z H4 R _ s4 hR => ?_) (fun z H4 R _ _ s4 hR => ⟨_, rfl, hR _ H4 (.refl _) (.int _) (.inl rfl)⟩) (fun Lb H4 nLb s4 hLb => ?_)⟩
    · refine ⟨_, rfl, _, rfl, rfl, _, rfl, ?_⟩
      rw [dec_int]
      exact hR H4 (.refl _)
    generalize hbs : (List.range n).filter (fun z => !decide (z = a)) = bs at hLb
    have mbs : ∀ z, z < n → z ≠ a → z ∈ bs := fun z h1 h2 => by
      rw [← hbs]
      exact List.mem_filter.mpr ⟨List.mem_range.mpr h1, by simp [h2]⟩
    have bbs : ∀ z ∈ bs, z < n := fun z hz => by
      rw [← hbs] at hz
      exact List.mem_range.mp (List.mem_filter.mp hz).1
    obtain ⟨ub, u1, u2⟩ := hLb
    have u2' := dpa_isL_eq u2
    subst u2'
    refine ⟨Lb, rfl, ⟨_, SqL.of u1⟩, for_list (K := K) (a := Lb) (xs := vN bs) (fun m σ H5 => ∃ v4 v5, σ = [some (.ref L), some (.str "arcs"), some (.int (n : Nat)), some (.int (a : Nat)), v4, v5, none, none] ∧ Same H4 H5 ∧ ∀ m' k l, m' < m → k < n → l < n → Bar n X a (bs.getD m' 0) k l = false) ⟨v4, v5, rfl, .refl _, fun m' k l h => absurd h (Nat.not_lt_zero _)⟩ (fun m σ H5 _ ⟨_, _, _, s5, _⟩ => SqL.of (s5 _ _ u1)) (fun m x σ H5 hx hP => ?_) (fun σ H5 hP => ?_)⟩
    · obtain ⟨v4, v5, rfl, s5, no2⟩ := hP
      have hm : m < bs.length := by have := (List.getElem?_eq_some_iff.mp hx).1; rw [vN_len] at this; exact this
      rw [vN_at hm] at hx
      cases hx
      have hbn := bbs _ (List.getElem_mem hm)
      have eb : bs.getD m 0 = bs[m] := by simp [hm]
      generalize bs[m] = b at hbn eb
      refine ⟨_, rfl, lc_r1 (K := K) (n := n) rfl (by omega) (fun z => !decide (z = a) && !decide (z = b)) iD (fun _ => rfl) (fun z H6 R _ s6 hR => ?_) (fun z H6 R _ _ s6 hR => ⟨_, rfl, hR _ H6 (.refl _) (.int _) (.inl rfl)⟩) (fun Lc H6 nLc s6 hLc => ?_)⟩
      · refine ⟨_, rfl, _, rfl, rfl, _, rfl, ?_⟩
        rw [dec_int]
        cases e : !decide (z = a) with
        | false =>
          rw [e] at hR
          exact hR H6 (.refl _)
        | true =>
          rw [e] at hR
          refine ⟨_, rfl, _, rfl, rfl, _, rfl, ?_⟩
          rw [dec_int]
          exact hR H6 (.refl _)
      generalize hcs : (List.range n).filter (fun z => !decide (z = a) && !decide (z = b)) = cs at hLc
      have mcs : ∀ z, z < n → z ≠ a → z ≠ b → z ∈ cs := fun z h1 h2 h3 => by
        rw [← hcs]
        exact List.mem_filter.mpr ⟨List.mem_range.mpr h1, by simp [h2, h3]⟩
      have bcs : ∀ z ∈ cs, z < n := fun z hz => by
        rw [← hcs] at hz
        exact List.mem_range.mp (List.mem_filter.mp hz).1
      obtain ⟨uc, w1, w2⟩ := hLc
      have w2' := dpa_isL_eq w2
      subst w2'
      refine ⟨Lc, rfl, ⟨_, SqL.of w1⟩, for_list (K := K) (a := Lc) (xs := vN cs) (fun m σ H7 => ∃ v5, σ = [some (.ref L), some (.str "arcs"), some (.int (n : Nat)), some (.int (a : Nat)), some (.int (b : Nat)), v5, none, none] ∧ Same H6 H7 ∧ ∀ m' l, m' < m → l < n → Bar n X a b (cs.getD m' 0) l = false) ⟨v5, rfl, .refl _, fun m' l h => absurd h (Nat.not_lt_zero _)⟩ (fun m σ H7 _ ⟨_, _, s7, _⟩ => SqL.of (s7 _ _ w1)) (fun mc x σ H7 hx hP => ?_) (fun σ H7 hP => ?_)⟩
      · obtain ⟨v5, rfl, s7, no3⟩ := hP
        have hmc : mc < cs.length := by have := (List.getElem?_eq_some_iff.mp hx).1; rw [vN_len] at this; exact this
        rw [vN_at hmc] at hx
        cases hx
        have hcn := bcs _ (List.getElem_mem hmc)
        have ec : cs.getD mc 0 = cs[mc] := by simp [hmc]
        generalize cs[mc] = c at hcn ec
        have s07 := ((s3.trans s4).trans s5).trans (s6.trans s7)
        refine ⟨_, rfl, lc_r1 (K := K) (n := n) rfl (by omega) (fun _ => true) (fun l => .bool (Bar n X a b c l)) (fun _ => rfl) (fun z H8 R _ s8 hR => hR H8 (.refl _)) (fun l H8 R hl _ s8 hR => ?_) (fun D H8 nD s8 hD => ?_)⟩
        · refine ⟨_, rfl, _, rfl, _, rfl, _, rfl, _, rfl, _, rfl, sz (by show 4 ≤ 1000000; decide), fun tt nt => ?_⟩
          ktr_call (H9 e9 h9) nt
          exact ⟨L, tt, n, X, a, b, c, l, rfl, Dp.same ((s07.trans s8).trans e9) _ _ hX, SqT.of h9, hn, ha, hbn, hcn, hl, fun HA sA => hR _ HA (e9.trans sA) (.bl _) (.inl rfl)⟩
        · have hb := la_bools (g := fun l => Bar n X a b c l) hD
          refine ⟨D, _, rfl, SqL.of hb, _, rfl, ?_⟩
          have e : ((((List.range n).filter fun _ => true).map fun l => Bar n X a b c l).any id) = (List.range n).any fun l => Bar n X a b c l := by
            rw [List.any_map, show (List.range n).filter (fun _ => true) = List.range n from List.filter_eq_self.mpr fun _ _ => rfl]; rfl
          rw [e]
          refine ite2 (fun c1 => ?_) (fun c1 => ?_)
          · obtain ⟨l, hl, hB⟩ := List.any_eq_true.mp c1
            exact q true H8 (s07.trans s8) ⟨fun _ => ⟨a, b, c, l, ha, hbn, hcn, List.mem_range.mp hl, hB⟩, fun _ => rfl⟩
          · refine ⟨_, rfl, s7.trans s8, fun m' l h1 hl => ?_⟩
            by_cases e2 : m' = mc
            · subst e2
              rw [ec]
              cases hB : Bar n X a b c l with
              | false => rfl
              | true => exact absurd (List.any_eq_true.mpr ⟨l, List.mem_range.mpr hl, hB⟩) c1
            · exact no3 m' l (by omega) hl
      · obtain ⟨v5, rfl, s7, no3⟩ := hP
        rw [vN_len] at no3
        refine ⟨_, _, rfl, s5.trans (s6.trans s7), fun m' k l h1 hk hl => ?_⟩
        by_cases e2 : m' = m
        · subst e2
          rw [eb]
          cases hB : Bar n X a b k l with
          | false => rfl
          | true =>
            obtain ⟨_, h2, h3⟩ := Bar.ne hB
            obtain ⟨i, hi, e⟩ := List.getElem_of_mem (mcs k hk (Ne.symm h2) (Ne.symm h3))
            have := no3 i l hi hl
            rw [show cs.getD i 0 = k by simp [hi, e], hB] at this
            cases this
        · exact no2 m' k l (by omega) hk hl
    · obtain ⟨v4, v5, rfl, s5, no2⟩ := hP
      rw [vN_len] at no2
      refine ⟨_, _, _, rfl, (s3.trans s4).trans s5, fun i j k l h1 hj hk hl => ?_⟩
      by_cases e2 : i = a
      · subst e2
        cases hB : Bar n X i j k l with
        | false => rfl
        | true =>
          obtain ⟨h2, _, _⟩ := Bar.ne hB
          obtain ⟨m, hm, e⟩ := List.getElem_of_mem (mbs j hj (Ne.symm h2))
          have := no2 m k l hm hk hl
          rw [show bs.getD m 0 = j by simp [hm, e], hB] at this
          cases this
      · exact no1 i j k l (by omega) hj hk hl
  · obtain ⟨v3, v4, v5, rfl, s3, no1⟩ := hP
    refine q false H3 s3 ⟨fun h => (by cases h), fun ⟨i, j, k, l, hi, hj, hk, hl, hB⟩ => ?_⟩
    rw [no1 i j k l hi hj hk hl] at hB
    exact hB

abbrev s_law_right : Stmt := topS 99
abbrev N_law_right : List Str := ["_law_table", "_law_kind", "_law_told_here"]
theorem sc_law_right : FnScope N_law_right ["_law_table", "_law_kind", "_law_told_here"] (defScope s_law_right) := ⟨rfl, rfl, rfl, by decide +kernel, rfl, by decide +kernel, by decide +kernel⟩
theorem canLay_TabD (n : Nat) (T : Nat → Nat → Bool) : (TabD n T).canLay0 = true := by
  have h1 : ∀ (l : List Nat) (f : Nat → Bool), PyData.canLayAll0 (l.map fun j => .bool (f j)) = true := by
    intro l f
    induction l with
    | nil => rfl
    | cons a l ih => rw [List.map_cons, PyData.canLayAll0, ih]; rfl
  have h2 : ∀ l : List Nat, PyData.canLayAll0 (l.map fun i => .list (rowL n (T i))) = true := by
    intro l
    induction l with
    | nil => rfl
    | cons a l ih =>
      rw [List.map_cons, PyData.canLayAll0, ih, PyData.canLay0]
      unfold rowL
      rw [h1]
      rfl
  unfold TabD
  rw [PyData.canLay0, h2]
theorem depth_TabD (n : Nat) (T : Nat → Nat → Bool) : (TabD n T).depth ≤ 64 := by
  have h1 : ∀ (l : List Nat) (f : Nat → Bool), PyData.depthAll (l.map fun j => .bool (f j)) ≤ 1 := by
    intro l f
    induction l with
    | nil => exact Nat.zero_le _
    | cons a l ih =>
      rw [List.map_cons, PyData.depthAll]
      exact Nat.max_le.mpr ⟨by show PyData.depth (.bool (f a)) ≤ 1; rw [PyData.depth]; omega, ih⟩
  have h2 : ∀ l : List Nat, PyData.depthAll (l.map fun i => .list (rowL n (T i))) ≤ 3 := by
    intro l
    induction l with
    | nil => exact Nat.zero_le _
    | cons a l ih =>
      rw [List.map_cons, PyData.depthAll]
      refine Nat.max_le.mpr ⟨?_, ih⟩
      rw [PyData.depth]
      have := h1 (List.range n) (T a)
      unfold rowL
      omega
  unfold TabD
  rw [PyData.depth]
  have := h2 (List.range n)
  omega
theorem shaped_TabD (n : Nat) (T : Nat → Nat → Bool) : PySem.SeqAt.shaped (TabD n T) = true := by
  unfold PySem.SeqAt.shaped
  rw [canLay_TabD, decide_eq_true (depth_TabD n T)]
  rfl
theorem TabD_congr {n : Nat} {T T' : Nat → Nat → Bool} (h : ∀ i j, i < n → j < n → T i j = T' i j) : TabD n T = TabD n T' := by
  unfold TabD
  congr 1
  apply List.map_congr_left
  intro i hi
  congr 1
  unfold rowL
  apply List.map_congr_left
  intro j hj
  rw [h i j (List.mem_range.mp hi) (List.mem_range.mp hj)]
/-- what is told: a drawing that tells the table, or four elements -/
def spRight (K : PySem.W.Frag) : Sp := fun vs H Q _ => ∃ (L a : Addr) (n : Nat) (X : Nat → Nat → Bool), vs = [.ref L, .str "arcs", .ref a] ∧ Dp K H (.ref L) (TabD n X) ∧ n ≤ 40 ∧
  ((∃ ps, Dp K H (.ref a) (.tuple [.bool true, .tuple (psL ps)]) ∧ ps.length = n ∧ (∀ i j, i < n → j < n → cloK (byArcs ps) n i j = X i j) ∧ (∀ i, i < n → X i i = false) ∧ ∀ H', Same H H' → Q (.bl true) H') ∨
   (∃ i j k l, Dp K H (.ref a) (.tuple [.bool false, .tuple (isL [i, j, k, l])]) ∧ i < n ∧ j < n ∧ k < n ∧ l < n ∧ ∀ H', Same H H' → Q (.bl (Bar n X i j k l)) H'))
theorem tup2_at {H : Hp} {a : Addr} {d e : PyData} (h : Dp K H (.ref a) (.tuple [d, e])) : ∃ x y, SqT K H a [x, y] ∧ Dp K H x d ∧ Dp K H y e := by
  obtain ⟨a', xs, q, h1, h2⟩ := dp_tup h
  cases q
  cases h2 with
  | cons h3 h2 => cases h2 with
    | cons h4 h2 => cases h2; exact ⟨_, _, h1, h3, h4⟩
theorem d_right (T : Blt mg) (t : TD K mg "_law_right" s_law_right) (d__law_table_of : Df P w K mg base 4 "_law_table_of" (spTableOf K)) (d__law_bars : Df P w K mg base 4 "_law_bars" (spBars K)) : Df P w K mg base 5 "_law_right" (spRight K) := by
  refine df_mk t sc_law_right (fun _ _ _ _ _ _ us hl => match us, hl with | [_, _, _], _ => rfl) (fun vs H Q E h => ?_) (fun f cdv A outer s₀ H vs Q E hr h => ?_)
  · obtain ⟨L, a, n, X, rfl, _⟩ := h; rfl
  obtain ⟨L, a, n, X, rfl, hX, hn, q⟩ := h
  refine ⟨_, pss_cons (ps_if (PW.pt (pw_or (pt_not (pt_val (pe_callB (isiK (K := K) rfl) rfl T.b_isinstance (by decide +kernel) (pa_cons (pv 2) (pa_cons (pe_bltn (v := .ty "tuple") rfl T.b_tuple (by decide +kernel) rfl) pa_nil))))) (pw_or (pt_cmpR op_ne (pe_callB (lenK (K := K) rfl) rfl T.b_len (by decide +kernel) (pa_cons (pv 2) pa_nil)) (pe_int) (nomark _)) (pw_or1 (pt_not (pt_val (pe_callB (isiK (K := K) rfl) rfl T.b_isinstance (by decide +kernel) (pa_cons (pe_ix (ixK (K := K) rfl) (pv 2) (pe_int) (fun _ _ => rfl)) (pa_cons (pe_bltn (v := .ty "bool") rfl T.b_bool (by decide +kernel) rfl) pa_nil)))))))))
      (pss_one (ps_ret (pe_bl)))
      (pss_nil))
      (pss_cons (ps_if (pt_val (pe_ix (ixK (K := K) rfl) (pv 2) (pe_int) (fun _ _ => rfl)))
      (pss_one (ps_ret (pe_cmpR (op_eqD hr.units) (pe_df d__law_table_of hr (by decide) rfl (pa_cons (pv 1) (pa_cons (pe_ix (ixK (K := K) rfl) (pv 2) (pe_int) (fun _ _ => rfl)) pa_nil))) (pv 0) (nomark _))))
      (pss_nil))
      (pss_one (ps_ret (pe_df d__law_bars hr (by decide) rfl (pa_cons (pv 0) (pa_cons (pv 1) (pa_cons (pe_ix (ixK (K := K) rfl) (pv 2) (pe_int) (fun _ _ => rfl)) pa_nil))))))), ?_⟩
  have head : ∃ (c : Bool) (e : PyData) (x y : V), SqT K H a [x, y] ∧ x = .bl c ∧ Dp K H y e ∧ ((c = true ∧ ∃ ps, e = .tuple (psL ps) ∧ ps.length = n ∧ (∀ i j, i < n → j < n → cloK (byArcs ps) n i j = X i j) ∧ (∀ i, i < n → X i i = false) ∧ ∀ H', Same H H' → Q (.bl true) H') ∨ (c = false ∧ ∃ i j k l, e = .tuple (isL [i, j, k, l]) ∧ i < n ∧ j < n ∧ k < n ∧ l < n ∧ ∀ H', Same H H' → Q (.bl (Bar n X i j k l)) H')) := by
    rcases q with ⟨ps, hd, h1, h2, h3, h4⟩ | ⟨i, j, k, l, hd, h1⟩
    · obtain ⟨x, y, hs, hx, hy⟩ := tup2_at hd
      exact ⟨true, _, x, y, hs, dp_bl hx, hy, .inl ⟨rfl, ps, rfl, h1, h2, h3, h4⟩⟩
    · obtain ⟨x, y, hs, hx, hy⟩ := tup2_at hd
      exact ⟨false, _, x, y, hs, dp_bl hx, hy, .inr ⟨rfl, i, j, k, l, rfl, h1⟩⟩
  obtain ⟨c, e, x, y, hs, rfl, hy, q⟩ := head
  refine ⟨_, rfl, _, _, _, _, true, rfl, .ty _, sqt_ty hs, kit_ty (by decide +kernel), true, rfl, ite2 (fun c => by cases c) (fun _ => ?_)⟩
  refine ⟨_, rfl, a, _, rfl, .inr hs, rfl, _, rfl, ite2 (fun c => by cases c) (fun _ => ?_)⟩
  refine ⟨_, rfl, .inr (.inl ⟨a, _, (0 : Nat), _, rfl, rfl, hs, atn (i := 0) rfl, _, _, _, _, true, rfl, .ty _, .base (.bl c), kit_ty (by decide +kernel), true, rfl, ite2 (fun c => by cases c) (fun _ => ?_)⟩)⟩
  refine ⟨_, rfl, .inr (.inl ⟨a, _, (0 : Nat), _, rfl, rfl, hs, atn (i := 0) rfl, c, rfl, ?_⟩)⟩
  rcases q with ⟨rfl, ps, rfl, h1, h2, h3, h4⟩ | ⟨rfl, i, j, k, l, rfl, hi, hj, hk, hl, h4⟩
  · obtain ⟨b, ys, rfl, _, _⟩ := dp_tup hy
    refine ite2 (fun _ => ?_) (fun c => absurd rfl c)
    refine ⟨_, rfl, _, rfl, .inr (.inl ⟨a, _, (1 : Nat), _, rfl, rfl, hs, atn (i := 1) rfl, b, ps, rfl, hy, by omega, fun k hk => ?_, fun L2 H2 nL2 s2 hT => ?_⟩)⟩
    · rw [h1] at hk ⊢
      rw [h2 k k hk hk]
      exact h3 k hk
    · rw [h1, TabD_congr h2] at hT
      refine ⟨_, rfl, TabD n X, TabD n X, hT, Dp.same s2 _ _ hX, shaped_TabD n X, shaped_TabD n X, ?_⟩
      rw [PySem.SeqAt.eqv_refl _ (canLay_TabD n X)]
      exact h4 H2 s2
  · obtain ⟨b, ys, rfl, hb, hb2⟩ := dp_tup hy
    rw [dpa_isL_eq hb2] at hb
    refine ite2 (fun c => by cases c) (fun _ => ?_)
    exact ⟨_, rfl, _, rfl, _, rfl, .inr (.inl ⟨a, _, (1 : Nat), _, rfl, rfl, hs, atn (i := 1) rfl, L, b, n, X, i, j, k, l, rfl, hX, hb, by omega, hi, hj, hk, hl, fun H1 s1 => h4 H1 s1⟩)⟩
end
end K11
set_option maxHeartbeats 4000000

/-! B17: arcs_of. -/
namespace K11
open PySem PySem.Spec PyProof.Rows L2
/-! ### the drawing -/
def headStep (U : Nat → List Nat) (hs : List (List Nat)) (i : Nat) : List (List Nat) := if U i ≠ [] ∧ U i ∉ hs then hs ++ [U i] else hs
def headsOf (U : Nat → List Nat) (k : Nat) : List (List Nat) := (List.range k).foldl (headStep U) []
theorem headsOf_succ (U : Nat → List Nat) (k : Nat) : headsOf U (k + 1) = headStep U (headsOf U k) k := by unfold headsOf; rw [List.range_succ, List.foldl_append]; rfl
def tailStep (hs : List (List Nat)) (i t k : Nat) : Nat := if i ∈ hs.getD k [] then k + 1 else t
def tailOf (hs : List (List Nat)) (i m : Nat) : Nat := (List.range m).foldl (tailStep hs i) 0
theorem tailOf_succ (hs : List (List Nat)) (i m : Nat) : tailOf hs i (m + 1) = tailStep hs i (tailOf hs i m) m := by unfold tailOf; rw [List.range_succ, List.foldl_append]; rfl
def headOf (hs : List (List Nat)) (r : List Nat) : Nat := if r = [] then hs.length + 1 else 1 + hs.idxOf r
def arcAt (n : Nat) (U : Nat → List Nat) (i : Nat) : Nat × Nat := (tailOf (headsOf U n) i (headsOf U n).length, headOf (headsOf U n) (U i))
def arcsOf (n : Nat) (U : Nat → List Nat) : List (Nat × Nat) := (List.range n).map (arcAt n U)
theorem headsOf_len (U : Nat → List Nat) (k : Nat) : (headsOf U k).length ≤ k := by
  induction k with
  | zero => exact Nat.le_refl _
  | succ k ih =>
    rw [headsOf_succ]
    unfold headStep
    split
    · rw [List.length_append, List.length_singleton]; omega
    · omega
theorem headsOf_nd (U : Nat → List Nat) (k : Nat) : (headsOf U k).Nodup := by
  induction k with
  | zero => exact List.nodup_nil
  | succ k ih =>
    rw [headsOf_succ]
    unfold headStep
    split
    · rename_i h
      exact List.nodup_append.mpr ⟨ih, by simp, fun x hx y hy => by
        rw [List.mem_singleton] at hy
        rw [hy]
        exact fun e => h.2 (by rw [← e]; exact hx)⟩
    · exact ih
theorem mem_headsOf (U : Nat → List Nat) {k i : Nat} (h : i < k) (ne : U i ≠ []) : U i ∈ headsOf U k := by
  induction k with
  | zero => omega
  | succ k ih =>
    rw [headsOf_succ]
    unfold headStep
    by_cases e : i = k
    · subst e
      split
      · exact List.mem_append_right _ (List.mem_singleton.mpr rfl)
      · rename_i h2
        by_cases m : U i ∈ headsOf U i
        · exact m
        · exact absurd ⟨ne, m⟩ h2
    · have := ih (by omega)
      split
      · exact List.mem_append_left _ this
      · exact this
theorem headsOf_from (U : Nat → List Nat) (k : Nat) : ∀ r ∈ headsOf U k, r ≠ [] ∧ ∃ i, i < k ∧ U i = r := by
  induction k with
  | zero => intro r h; cases h
  | succ k ih =>
    rw [headsOf_succ]
    unfold headStep
    intro r h
    split at h
    · rename_i h2
      rcases List.mem_append.mp h with h | h
      · obtain ⟨h1, i, hi, e⟩ := ih r h
        exact ⟨h1, i, by omega, e⟩
      · rw [List.mem_singleton] at h
        exact ⟨by rw [h]; exact h2.1, k, by omega, h.symm⟩
    · obtain ⟨h1, i, hi, e⟩ := ih r h
      exact ⟨h1, i, by omega, e⟩
theorem idx_leL : ∀ {l : List (List Nat)} {m : Nat} (h : m < l.length), l.idxOf l[m] ≤ m
  | x :: l, 0, _ => by rw [List.getElem_cons_zero, List.idxOf_cons_self]; exact Nat.le_refl _
  | x :: l, m + 1, h => by
    rw [List.getElem_cons_succ, List.idxOf_cons]
    have ih := idx_leL (l := l) (m := m) (by simpa using h)
    cases (x == l[m]'(by simpa using h)) with
    | true => exact Nat.zero_le _
    | false => exact Nat.succ_le_succ ih
/-- one statement of an if's body, its other side empty -/
theorem if_go {c : Prop} [Decidable c] {t : TS} {D : Ends} {σ : L2.St} {H : Hp} (Good : L2.St → Hp → Prop) (h1 : c → (∀ σ' H', Good σ' H' → D.nx σ' H') → t D σ H) (h2 : ¬ c → Good σ H) (h : ∀ σ' H', Good σ' H' → D.nx σ' H') : if c then t D σ H else tNext D σ H := by
  by_cases hc : c
  · rw [if_pos hc]
    exact h1 hc h
  · rw [if_neg hc]
    exact h _ _ (h2 hc)
/-! ### equal data -/
theorem eqvAll_isL (a b : List Nat) : PyData.eqvAll (isL a) (isL b) = decide (a = b) := by
  induction a generalizing b with
  | nil => cases b with
    | nil => rfl
    | cons y b => rfl
  | cons x a ih => cases b with
    | nil => rfl
    | cons y b =>
      show (PyData.eqv (iD x) (iD y) && PyData.eqvAll (isL a) (isL b)) = _
      rw [ih]
      show (((x : Nat) : Int) == ((y : Nat) : Int) && decide (a = b)) = decide (x :: a = y :: b)
      by_cases h : x = y
      · subst h; simp
      · rw [beq_eq_false_iff_ne.mpr (by omega)]; simp [h]
theorem eqv_isLl (a b : List Nat) : PyData.eqv (.list (isL a)) (.list (isL b)) = decide (a = b) := by rw [PyData.eqv, eqvAll_isL]
theorem eqv_isLt (a b : List Nat) : PyData.eqv (.tuple (isL a)) (.tuple (isL b)) = decide (a = b) := by rw [PyData.eqv, eqvAll_isL]
def nodL (adj : List (List Nat)) : List PyData := adj.map fun r => .tuple (isL r)
theorem any_adj (hs : List (List Nat)) (r : List Nat) : ((adjL hs).any fun z => PyData.eqv z (.list (isL r))) = decide (r ∈ hs) := by
  unfold adjL
  induction hs with
  | nil => simp
  | cons x hs ih =>
    rw [List.map_cons, List.any_cons, ih, eqv_isLl]
    by_cases h : r = x
    · subst h; simp
    · have : ¬ x = r := fun e => h e.symm
      simp [h, this]
theorem any_nod (hs : List (List Nat)) (r : List Nat) : ((nodL hs).any fun z => PyData.eqv z (.tuple (isL r))) = decide (r ∈ hs) := by
  unfold nodL
  induction hs with
  | nil => simp
  | cons x hs ih =>
    rw [List.map_cons, List.any_cons, ih, eqv_isLt]
    by_cases h : r = x
    · subst h; simp
    · have : ¬ x = r := fun e => h e.symm
      simp [h, this]
theorem canLay_isL (r : List Nat) : PyData.canLayAll0 (isL r) = true := by
  induction r with
  | nil => rfl
  | cons x r ih => show PyData.canLayAll0 (iD x :: isL r) = true; rw [PyData.canLayAll0, ih]; rfl
theorem depth_isL (r : List Nat) : PyData.depthAll (isL r) ≤ 1 := by
  induction r with
  | nil => exact Nat.zero_le _
  | cons x r ih =>
    show PyData.depthAll (iD x :: isL r) ≤ 1
    rw [PyData.depthAll]
    exact Nat.max_le.mpr ⟨by show PyData.depth (.int x) ≤ 1; rw [PyData.depth]; omega, ih⟩
theorem shaped_isLl (r : List Nat) : PySem.SeqAt.shaped (.list (isL r)) = true := by
  unfold PySem.SeqAt.shaped
  have := depth_isL r
  rw [PyData.canLay0, canLay_isL, PyData.depth, decide_eq_true (by omega)]
  rfl
theorem shaped_isLt (r : List Nat) : PySem.SeqAt.shaped (.tuple (isL r)) = true := by
  unfold PySem.SeqAt.shaped
  have := depth_isL r
  rw [PyData.canLay0, canLay_isL, PyData.depth, decide_eq_true (by omega)]
  rfl
theorem shaped_adj (hs : List (List Nat)) : PySem.SeqAt.shaped (.list (adjL hs)) = true := by
  have h1 : PyData.canLayAll0 (adjL hs) = true := by
    unfold adjL
    induction hs with
    | nil => rfl
    | cons x hs ih => rw [List.map_cons, PyData.canLayAll0, ih, PyData.canLay0, canLay_isL]; rfl
  have h2 : PyData.depthAll (adjL hs) ≤ 3 := by
    unfold adjL
    clear h1
    induction hs with
    | nil => exact Nat.zero_le _
    | cons x hs ih =>
      rw [List.map_cons, PyData.depthAll]
      refine Nat.max_le.mpr ⟨?_, ih⟩
      have := depth_isL x
      rw [PyData.depth]
      omega
  unfold PySem.SeqAt.shaped
  rw [PyData.canLay0, h1, PyData.depth, decide_eq_true (by omega)]
  rfl
theorem shaped_nod (hs : List (List Nat)) : PySem.SeqAt.shaped (.list (nodL hs)) = true := by
  have h1 : PyData.canLayAll0 (nodL hs) = true := by
    unfold nodL
    induction hs with
    | nil => rfl
    | cons x hs ih => rw [List.map_cons, PyData.canLayAll0, ih, PyData.canLay0, canLay_isL]; rfl
  have h2 : PyData.depthAll (nodL hs) ≤ 3 := by
    unfold nodL
    clear h1
    induction hs with
    | nil => exact Nat.zero_le _
    | cons x hs ih =>
      rw [List.map_cons, PyData.depthAll]
      refine Nat.max_le.mpr ⟨?_, ih⟩
      have := depth_isL x
      rw [PyData.depth]
      omega
  unfold PySem.SeqAt.shaped
  rw [PyData.canLay0, h1, PyData.depth, decide_eq_true (by omega)]
  rfl
theorem adjL_len (hs : List (List Nat)) : (adjL hs).length = hs.length := List.length_map _
theorem adjL_at {hs : List (List Nat)} {i : Nat} (h : i < hs.length) : (adjL hs)[i]? = some (.list (isL hs[i])) := by unfold adjL; rw [List.getElem?_map, List.getElem?_eq_getElem h]; rfl
theorem adjL_snoc (hs : List (List Nat)) (r : List Nat) : adjL (hs ++ [r]) = adjL hs ++ [.list (isL r)] := by unfold adjL; rw [List.map_append]; rfl
theorem nodL_len (hs : List (List Nat)) : (nodL hs).length = hs.length := List.length_map _
theorem nodL_at {hs : List (List Nat)} {i : Nat} (h : i < hs.length) : (nodL hs)[i]? = some (.tuple (isL hs[i])) := by unfold nodL; rw [List.getElem?_map, List.getElem?_eq_getElem h]; rfl
theorem nodL_snoc (hs : List (List Nat)) (r : List Nat) : nodL (hs ++ [r]) = nodL hs ++ [.tuple (isL r)] := by unfold nodL; rw [List.map_append]; rfl
section
variable {P : Program} {w : World} {K : PySem.W.Frag} {mg : Str → Option Value} {base : Heap}
abbrev s_law_arcs_of : Stmt := topS 100
abbrev N_law_arcs_of : List Str := ["_law_table", "_law_size", "_law_series", "_law_heads", "_law_row", "_law_arcs", "_law_element", "_law_head", "_law_tail", "_law_k"]
theorem sc_law_arcs_of : FnScope N_law_arcs_of ["_law_table"] (defScope s_law_arcs_of) := ⟨rfl, rfl, rfl, by decide +kernel, rfl, by decide +kernel, by decide +kernel⟩
def spArcsOf (K : PySem.W.Frag) : Sp := fun vs H Q _ => ∃ (L : Addr) (n : Nat) (X : Nat → Nat → Bool), vs = [.ref L] ∧ Dp K H (.ref L) (TabD n X) ∧ n ≤ 100 ∧ ∀ r H', Same H H' → Dp K H' (.ref r) (.tuple (psL (arcsOf n (upp n X)))) → Q (.ref r) H'
theorem d_arcsof (T : Blt mg) (t : TD K mg "_law_arcs_of" s_law_arcs_of) (d__law_upper : Df P w K mg base 2 "_law_upper" (spUpp K)) : Df P w K mg base 3 "_law_arcs_of" (spArcsOf K) := by
  refine df_mk t sc_law_arcs_of (fun _ _ _ _ _ _ us hl => match us, hl with | [_], _ => rfl) (fun vs H Q E h => ?_) (fun f cdv A outer s₀ H vs Q E hr h => ?_)
  · obtain ⟨L, n, X, rfl, _⟩ := h; rfl
  obtain ⟨L, n, X, rfl, hX, hn, q⟩ := h
  refine ⟨_, pss_cons (ps_set (i := 1) sc_law_arcs_of.nd rfl (.inl rfl) (pe_callB (lenK (K := K) rfl) rfl T.b_len (by decide +kernel) (pa_cons (pv 0) pa_nil)))
      (pss_cons (ps_setLc (i := 2) (own := [("_law_element", 6)]) (g := gName 6) rfl sc_law_arcs_of.nd rfl rfl (sw_true rfl rfl rfl (by decide +kernel)) (pi_range1 rfl T.b_range (pa_cons (pv 1) pa_nil)) (blkOk_by (own := [("_law_element", 6)]) (N := N_law_arcs_of) (sc := defScope s_law_arcs_of) (by decide +kernel)) (fun _ _ _ _ _ => pg_name (i := 6) sc_law_arcs_of.nd rfl (by first | exact .inl rfl | exact .inr rfl)) (fun _ _ _ _ _ => pts_nil) (fun _ _ _ _ _ => pe_df d__law_upper hr (by decide) rfl (pa_cons (pv 0) (pa_cons (pv 6) pa_nil))))
      (pss_cons (ps_set (i := 3) sc_law_arcs_of.nd rfl (.inl rfl) (pe_lst pa_nil))
      (pss_cons (ps_for PassesOwn.never rfl (pi_list (pv 2)) (pg_name (i := 4) sc_law_arcs_of.nd rfl (.inl rfl))
      (pss_one (ps_if (PW.pt (pw_and (pt_cmpR (op_neD hr.units) (pv 4) (pe_lst pa_nil) (nomark _)) (pw_and1 (pt_cmpR (op_notInD (hu_of65 hr)) (pv 4) (pv 3) rfl))))
      (pss_one (ps_expr (pe_bm PySem.F.plainAttrs_list PySem.F.slot_list_append PySem.F.type_list_append mt_append (pv 3) (pa_cons (pv 4) pa_nil))))
      (pss_nil))))
      (pss_cons (ps_set (i := 5) sc_law_arcs_of.nd rfl (.inl rfl) (pe_lst pa_nil))
      (pss_cons (ps_for PassesOwn.never rfl (pi_range1 rfl T.b_range (pa_cons (pv 1) pa_nil)) (pg_name (i := 6) sc_law_arcs_of.nd rfl (.inl rfl))
      (pss_cons (ps_set (i := 7) sc_law_arcs_of.nd rfl (.inl rfl) (pe_op op_add (pe_callB (lenK (K := K) rfl) rfl T.b_len (by decide +kernel) (pa_cons (pv 3) pa_nil)) (pe_int)))
      (pss_cons (ps_if (pt_cmpR (op_neD hr.units) (pe_ix (ixK (K := K) rfl) (pv 2) (pv 6) (fun _ _ => rfl)) (pe_lst pa_nil) (nomark _))
      (pss_one (ps_set (i := 7) sc_law_arcs_of.nd rfl (.inl rfl) (pe_op op_add (pe_int) (pe_bm PySem.F.plainAttrs_list PySem.F.slot_list_index PySem.F.type_list_index (mt_indexD (hu_of65 hr)) (pv 3) (pa_cons (pe_ix (ixK (K := K) rfl) (pv 2) (pv 6) (fun _ _ => rfl)) pa_nil)))))
      (pss_nil))
      (pss_cons (ps_set (i := 8) sc_law_arcs_of.nd rfl (.inl rfl) (pe_int))
      (pss_cons (ps_for PassesOwn.never rfl (pi_range1 rfl T.b_range (pa_cons (pe_callB (lenK (K := K) rfl) rfl T.b_len (by decide +kernel) (pa_cons (pv 3) pa_nil)) pa_nil)) (pg_name (i := 9) sc_law_arcs_of.nd rfl (.inl rfl))
      (pss_one (ps_if (pt_cmpR (inK (K := K) rfl) (pv 6) (pe_ix (ixK (K := K) rfl) (pv 3) (pv 9) (fun _ _ => rfl)) rfl)
      (pss_one (ps_set (i := 8) sc_law_arcs_of.nd rfl (.inl rfl) (pe_op op_add (pv 9) (pe_int))))
      (pss_nil))))
      (pss_one (ps_expr (pe_bm PySem.F.plainAttrs_list PySem.F.slot_list_append PySem.F.type_list_append mt_append (pv 5) (pa_cons (pe_tup (pa_cons (pv 8) (pa_cons (pv 7) pa_nil))) pa_nil)))))))))
      (pss_one (ps_ret (pe_callTy (tupK (K := K) rfl) rfl T.b_tuple (by decide +kernel) (pa_cons (pv 5) pa_nil))))))))), ?_⟩
  obtain ⟨rows, hrows, lrows, _⟩ := tab_row hX
  refine ⟨_, rfl, L, rows, rfl, .inl hrows, ?_⟩
  rw [lrows]
  generalize hU : upp n X = U at q
  refine ⟨_, rfl, _, rfl, by omega, by omega, fun Sr nSr => ?_⟩
  rw [Int.toNat_natCast]
  refine lc_range (lo := 0) (n := n) (fun i H3 => ∃ rs, Same H H3 ∧ Parts H3 Sr Sr rs ((List.range i).map U)) ⟨[], same_up nSr, upd_same, rfl, fun i r pt h => by simp at h⟩ (fun i H3 hi ⟨rs, s3, R⟩ => ?_) (fun H1 ⟨rs, s1, R⟩ => ?_)
  · refine ⟨rfl, _, rfl, _, rfl, L, n, X, i, by show ([V.ref L, V.int (0 + (i : Int))] : List V) = _; rw [Int.zero_add], Dp.same s3 _ _ hX, hn, hi, fun r H5 nr s5 hr5 => ?_⟩
    rw [hU] at hr5
    obtain ⟨ys, h1, h2⟩ := hr5
    rw [dpa_isL_eq h2] at h1
    have R5 := R.same s5
    have lr := R5.len
    rw [List.length_map, List.length_range] at lr
    have nrS : r ≠ Sr := (ne_of_none R.top nr).symm
    refine ⟨_, R5.top, szl (by rw [List.length_map]; omega), rs ++ [r], K11.Same.mut (s3.trans s5) nSr, ?_⟩
    rw [List.range_succ, List.map_append]
    exact R5.app h1 nrS nrS but_up upd_same
  have lrs : rs.length = n := by rw [R.len, List.length_map, List.length_range]
  have item : ∀ i, i < n → ∃ r, (rs.map V.ref)[i]? = some (.ref r) ∧ H1 r = some (.lst (vN (U i))) := fun i hi => by
    have h1 : rs[i]? = some rs[i] := List.getElem?_eq_getElem (by omega)
    refine ⟨rs[i], by rw [List.getElem?_map, h1]; rfl, (R.at_ i rs[i] (U i) h1 ?_).1⟩
    rw [List.getElem?_map, List.getElem?_range hi]
    rfl
  have hx := R.top
  have lxs : (rs.map V.ref).length = n := by rw [List.length_map]; exact lrs
  generalize rs.map V.ref = xs at hx item lxs
  -- heads
  refine ⟨Nat.zero_le _, fun hd_ nhd => ?_⟩
  ktr_call (H2 e2 h2) nhd
  refine ⟨_, rfl, Sr, rfl, ⟨_, SqL.of (e2 _ _ hx)⟩, for_list (K := K) (a := Sr) (xs := xs) (fun k σ H3 => ∃ v4 acc, σ = [some (.ref L), some (.int (n : Nat)), some (.ref Sr), some (.ref hd_), v4, none, none, none, none, none] ∧ Same H1 H3 ∧ Grow K H3 hd_ acc (adjL (headsOf U k))) ⟨none, [], rfl, e2, .nil h2⟩ (fun k σ H3 _ ⟨_, _, _, s3, _⟩ => SqL.of (s3 _ _ hx)) (fun k x σ H3 hxk hP => ?_) (fun σ H3 hP => ?_)⟩
  · obtain ⟨v4, acc, rfl, s3, g⟩ := hP
    have hk : k < n := by have := (List.getElem?_eq_some_iff.mp hxk).1; omega
    obtain ⟨r, hr1, hrs⟩ := item k hk
    rw [hxk] at hr1
    cases hr1
    have hrd : Dp K H1 (.ref r) (.list (isL (U k))) := .lst (SqL.of hrs) (dpa_isL _)
    have lg := g.len
    rw [adjL_len] at lg
    have lh := headsOf_len U k
    rw [headsOf_succ]
    unfold headStep
    refine ⟨_, rfl, Nat.zero_le _, fun u nu => ?_⟩
    ktr_call (H4 e4 h4) nu
    refine ⟨_, _, Dp.same (s3.trans e4) _ _ hrd, .lst (SqL.of h4) .nil, shaped_isLl _, shaped_isLl [], _, rfl, ?_⟩
    rw [show PyData.eqv (.list (isL (U k))) (.list []) = decide (U k = []) from eqv_isLl (U k) []]
    by_cases c1 : U k = []
    · rw [decide_eq_true c1, if_neg (fun h => h.1 c1)]
      exact ⟨_, acc, rfl, s3.trans e4, g.same e4⟩
    · rw [decide_eq_false c1]
      refine ite2 (fun _ => ?_) (fun c => absurd rfl c)
      have g4 := g.same e4
      refine ⟨_, rfl, _, rfl, _, _, Dp.same (s3.trans e4) _ _ hrd, g4.la.dp, shaped_isLl _, shaped_adj _, _, rfl, ?_⟩
      rw [any_adj]
      by_cases c2 : U k ∈ headsOf U k
      · rw [decide_eq_true c2, if_neg (fun h => h.2 c2)]
        exact ⟨_, acc, rfl, s3.trans e4, g4⟩
      · rw [decide_eq_false c2, if_pos ⟨c1, c2⟩]
        refine ite2 (fun _ => ?_) (fun c => absurd rfl c)
        refine ⟨_, rfl, .inl ⟨rfl, _, SqL.of g4.at_⟩, _, rfl, hd_, acc, _, rfl, rfl, g4.at_, szl (by omega), ?_⟩
        tbr_iter (H5 b5 h5)
        refine ⟨_, acc ++ [.ref r], rfl, K11.Same.but (s3.trans e4) b5 nhd, ?_⟩
        rw [adjL_snoc]
        exact g4.app (Dp.same (s3.trans e4) _ _ hrd) (.inr ⟨r, _, rfl, ne_of_none hrs nhd, rfl, noLA_isL _⟩) b5 h5
  obtain ⟨v4, acc, rfl, s3, g⟩ := hP
  rw [lxs] at g
  generalize hhs : headsOf U n = hs at g
  have lg := g.len
  rw [adjL_len] at lg
  have lhn : hs.length ≤ n := by rw [← hhs]; exact headsOf_len U n
  -- arcs
  refine ⟨Nat.zero_le _, fun ar nar => ?_⟩
  ktr_call (H4 e4 h4) nar
  have hitem : ∀ k, k < hs.length → ∃ r, acc[k]? = some (.ref r) ∧ SqL K H3 r (vN (hs.getD k [])) := fun k hk => by
    obtain ⟨v, hv, hvd⟩ := dpa_at g.dat (adjL_at hk)
    obtain ⟨r, ys, rfl, h1, h2⟩ := dp_lst hvd
    rw [dpa_isL_eq h2] at h1
    refine ⟨r, hv, ?_⟩
    have e : hs.getD k [] = hs[k] := by simp [hk]
    rw [e]
    exact h1
  refine ⟨_, rfl, for_r1 (n := n) rfl (by omega) (fun i σ H5 => ∃ v6 v7 v8 v9 acc2, σ = [some (.ref L), some (.int (n : Nat)), some (.ref Sr), some (.ref hd_), v4, some (.ref ar), v6, v7, v8, v9] ∧ Same H3 H5 ∧ Grow K H5 ar acc2 (psL ((List.range i).map (arcAt n U)))) ⟨none, none, none, none, [], rfl, e4, .nil h4⟩ (fun i σ H5 hi hP => ?_) (fun σ H5 hP => ?_)⟩
  · obtain ⟨v6, v7, v8, v9, acc2, rfl, s5, g5⟩ := hP
    have la2 := g5.len
    rw [psL_len, List.length_map, List.length_range] at la2
    obtain ⟨r, hr1, hrs⟩ := item i hi
    have hrs3 := s3 _ _ hrs
    have hrd : Dp K H3 (.ref r) (.list (isL (U i))) := .lst (SqL.of hrs3) (dpa_isL _)
    have hx3 := SqL.of (K := K) (s3 _ _ hx)
    have gS := SqL.of (K := K) g.at_
    refine ⟨_, rfl, hd_, acc, rfl, .inl (s5.seq gS), _, _, rfl, rfl, ?_⟩
    rw [lg]
    refine ⟨_, rfl, _, rfl, .inl ⟨Sr, xs, i, _, rfl, rfl, s5.seq hx3, atn hr1, Nat.zero_le _, fun u nu => ?_⟩⟩
    ktr_call (H6 e6 h6) nu
    have s6 := s5.trans e6
    have g6 := g5.same e6
    refine ⟨_, _, Dp.same s6 _ _ hrd, .lst (SqL.of h6) .nil, shaped_isLl _, shaped_isLl [], _, rfl, ?_⟩
    rw [show PyData.eqv (.list (isL (U i))) (.list []) = decide (U i = []) from eqv_isLl (U i) []]
    refine if_go (fun σ' H' => H6 = H' ∧ σ' = [some (.ref L), some (.int (n : Nat)), some (.ref Sr), some (.ref hd_), v4, some (.ref ar), some (.int (i : Nat)), some (.int (headOf hs (U i) : Nat)), v8, v9]) (fun c k => ?_) (fun c => ?_) (fun σ' H' G => ?_)
    · have c1 : U i ≠ [] := by simpa using c
      have hm : U i ∈ hs := by rw [← hhs]; exact mem_headsOf U hi c1
      have hlt : hs.idxOf (U i) < hs.length := List.idxOf_lt_length_of_mem hm
      refine ⟨_, rfl, .inl ⟨rfl, _, s6.seq gS⟩, _, rfl, _, rfl, .inl ⟨Sr, xs, i, _, rfl, rfl, s6.seq hx3, atn hr1, ?_⟩⟩
      refine ⟨hd_, .ref r, .list (isL (U i)), adjL hs, hs.idxOf (U i), .list (isL (U i)), rfl, rfl, (g.same s6).la.dp, Dp.same s6 _ _ hrd, shaped_adj _, shaped_isLl _, ?_, ?_, fun m z' hm' hz => ?_, _, _, rfl, rfl, ?_⟩
      · rw [adjL_at hlt]
        have : hs[hs.idxOf (U i)] = U i := List.getElem_idxOf hlt
        rw [this]
      · rw [eqv_isLl, decide_eq_true rfl]
      · rw [adjL_at (Nat.lt_trans hm' hlt)] at hz
        cases hz
        rw [eqv_isLl, decide_eq_false]
        intro e
        have := idx_leL (l := hs) (Nat.lt_trans hm' hlt)
        rw [e] at this
        omega
      · refine k _ _ ⟨rfl, ?_⟩
        unfold headOf
        rw [if_neg c1]
        rfl
    · have c1 : U i = [] := by simpa using c
      refine ⟨rfl, ?_⟩
      unfold headOf
      rw [if_pos c1]
      rfl
    obtain ⟨rfl, rfl⟩ := G
    refine ⟨_, rfl, hd_, acc, rfl, .inl (s6.seq gS), for_r1 (n := hs.length) (by rw [lg]) (by omega) (fun k σ H7 => H6 = H7 ∧ ∃ v9, σ = [some (.ref L), some (.int (n : Nat)), some (.ref Sr), some (.ref hd_), v4, some (.ref ar), some (.int (i : Nat)), some (.int (headOf hs (U i) : Nat)), some (.int (tailOf hs i k : Nat)), v9]) ⟨rfl, v9, rfl⟩ (fun k σ H7 hk hP => ?_) (fun σ H7 hP => ?_)⟩
    · obtain ⟨rfl, v9, rfl⟩ := hP
      obtain ⟨r', hr', hrs'⟩ := hitem k hk
      refine ⟨_, rfl, _, rfl, _, rfl, .inl ⟨hd_, acc, k, _, rfl, rfl, s6.seq gS, atn hr', r', _, rfl, .inl (s6.seq hrs'), rfl, flat_vN _, _, rfl, ?_⟩⟩
      rw [tailOf_succ]
      unfold tailStep
      show if inV (.int (i : Nat)) (vN (hs.getD k [])) = true then _ else _
      rw [inV_vN]
      refine ite2 (fun c => ?_) (fun c => ?_)
      · rw [if_pos (of_decide_eq_true c)]
        exact ⟨_, rfl, _, _, rfl, rfl, rfl, _, rfl⟩
      · rw [if_neg (fun h => c (decide_eq_true h))]
        exact ⟨rfl, _, rfl⟩
    · obtain ⟨rfl, v9, rfl⟩ := hP
      refine ⟨_, rfl, .inl ⟨rfl, _, SqL.of g6.at_⟩, _, rfl, _, rfl, sz (by show 2 ≤ 1000000; decide), fun t nt => ?_⟩
      ktr_call (H8 e8 h8) nt
      have g8 := g6.same e8
      refine ⟨ar, acc2, .ref t, rfl, rfl, g8.at_, szl (by omega), ?_⟩
      tbr_iter (H9 b9 h9)
      refine ⟨_, _, _, _, acc2 ++ [.ref t], rfl, K11.Same.but (s6.trans e8) b9 nar, ?_⟩
      rw [List.range_succ, List.map_append, psL_app]
      refine g8.app (d := pD (arcAt n U i)) (dp_pD_mk (p := arcAt n U i) ?_) (.inl rfl) b9 h9
      rw [h8]
      unfold arcAt
      rw [hhs]
  · obtain ⟨v6, v7, v8, v9, acc2, rfl, s5, g5⟩ := hP
    refine ⟨_, rfl, ar, acc2, rfl, .inl ⟨SqL.of g5.at_, fun l nl => ?_⟩⟩
    ktr_call (H6 e6 h6) nl
    exact q l H6 (((s1.trans s3).trans s5).trans e6) (.tup (SqT.of h6) (Dp.sameAll e6 _ _ g5.dat))
end
end K11
set_option maxHeartbeats 4000000

/-! B18: found_ring. -/
namespace K11
open PySem PySem.Spec PyProof.Rows L2
def vS (ss : List Str) : List V := ss.map V.str
theorem vS_len (ss : List Str) : (vS ss).length = ss.length := List.length_map _
theorem vS_at {ss : List Str} {i : Nat} (h : i < ss.length) : (vS ss)[i]? = some (.str ss[i]) := by unfold vS; simp [h]
theorem vS_set (ss : List Str) (i : Nat) (x : Str) : (vS ss).set i (.str x) = vS (ss.set i x) := by unfold vS; rw [List.map_set]
/-- what is still to come at nodes that are new -/
def nsum : List Str → List (List Nat) → Nat
  | s :: ss, a :: as => (if s = "new" then a.length + 2 else 0) + nsum ss as
  | _, _ => 0
theorem nsum_new : ∀ {ss : List Str} {as : List (List Nat)} {i : Nat} (h : i < ss.length) (g : i < as.length) {x : Str}, ss[i] = "new" → x ≠ "new" → nsum (ss.set i x) as + (as[i].length + 2) = nsum ss as
  | s :: ss, a :: as, 0, _, _, x, e, n => by
    simp only [List.getElem_cons_zero] at e
    subst e
    show (if x = "new" then a.length + 2 else 0) + nsum ss as + (a.length + 2) = (if ("new" : Str) = "new" then a.length + 2 else 0) + nsum ss as
    rw [if_neg n, if_pos rfl]
    omega
  | s :: ss, a :: as, i + 1, h, g, x, e, n => by
    have ih := nsum_new (ss := ss) (as := as) (i := i) (by simpa using h) (by simpa using g) (x := x) (by simpa using e) n
    simp only [List.set_cons_succ, List.getElem_cons_succ, nsum]
    omega
theorem nsum_old : ∀ {ss : List Str} {as : List (List Nat)} {i : Nat} (h : i < ss.length) {x : Str}, ss[i] ≠ "new" → x ≠ "new" → nsum (ss.set i x) as = nsum ss as
  | s :: ss, [], _, _, x, e, n => by
    cases h : (s :: ss).set _ x <;> rfl
  | s :: ss, a :: as, 0, _, x, e, n => by
    simp only [List.getElem_cons_zero] at e
    show (if x = "new" then a.length + 2 else 0) + nsum ss as = (if s = "new" then a.length + 2 else 0) + nsum ss as
    rw [if_neg n, if_neg e]
  | s :: ss, a :: as, i + 1, h, x, e, n => by
    have ih := nsum_old (ss := ss) (as := as) (i := i) (by simpa using h) (x := x) (by simpa using e) n
    simp only [List.set_cons_succ, nsum]
    omega
abbrev Fr := Nat × Addr × List Nat
def fsum (ks : List Fr) : Nat := (ks.map fun k => k.2.2.length + 1).sum
theorem fsum_snoc (ks : List Fr) (k : Fr) : fsum (ks ++ [k]) = fsum ks + (k.2.2.length + 1) := by unfold fsum; simp
theorem fsum_len (ks : List Fr) : ks.length ≤ fsum ks := by
  unfold fsum
  induction ks with
  | nil => exact Nat.le_refl _
  | cons k ks ih => rw [List.map_cons, List.sum_cons, List.length_cons]; omega
/-- the search between two turns -/
structure Dfs (H0 H : Hp) (n : Nat) (ρ : Nat → Nat) (st wy lf : Addr) (ks : List Fr) (ss : List Str) : Prop where
  same : Same H0 H
  hst : H st = some (.lst (vS ss))
  len : ss.length = n
  hwy : H wy = some (.lst (vN (ks.map fun k => k.1)))
  hlf : H lf = some (.lst (ks.map fun k => V.ref k.2.1))
  it : ∀ k ∈ ks, k.1 < n ∧ H k.2.1 = some (.lst (vN k.2.2)) ∧ H0 k.2.1 = none ∧ (k.2.1 ≠ st ∧ k.2.1 ≠ wy ∧ k.2.1 ≠ lf) ∧ ∀ x ∈ k.2.2, x < n ∧ ρ k.1 < ρ x
  nd : (ks.map fun k => k.2.1).Nodup
  ris : ks.Pairwise fun a b => ρ a.1 < ρ b.1
  op : ∀ x : Nat, ss[x]? = some ("open" : Str) → x ∈ ks.map fun k => k.1
/-- three lists of the search, all fresh -/
structure Trio (H0 : Hp) (st wy lf : Addr) : Prop where
  fs : H0 st = none
  fw : H0 wy = none
  fl : H0 lf = none
  sw : st ≠ wy
  sl : st ≠ lf
  wl : wy ≠ lf
section
variable {H0 H H1 H2 H3 H4 : Hp} {n : Nat} {ρ : Nat → Nat} {st wy lf r : Addr} {ks : List Fr} {ss : List Str} {k : Fr}
/-- a node is opened -/
theorem Dfs.push (T : Trio H0 st wy lf) (D : Dfs H0 H n ρ st wy lf ks ss) {x : Nat} {row : List Nat} (hx : x < n) (hrow : ∀ y ∈ row, y < n ∧ ρ x < ρ y) (hr : ∀ k ∈ ks, ρ k.1 < ρ x)
    (b1 : But st H H1) (h1 : H1 st = some (.lst (vS (ss.set x "open")))) (b2 : But wy H1 H2) (h2 : H2 wy = some (.lst (vN (ks.map fun k => k.1) ++ [.int (x : Nat)])))
    (e3 : Same H2 H3) (f3 : H2 r = none) (h3 : H3 r = some (.lst (vN row))) (b4 : But lf H3 H4) (h4 : H4 lf = some (.lst ((ks.map fun k => V.ref k.2.1) ++ [.ref r]))) :
    Dfs H0 H4 n ρ st wy lf (ks ++ [(x, r, row)]) (ss.set x "open") := by
  have s1 := K11.Same.but D.same b1 T.fs
  have s2 := K11.Same.but s1 b2 T.fw
  have s3 := s2.trans e3
  have s4 := K11.Same.but s3 b4 T.fl
  have w2 : H2 st = some (.lst (vS (ss.set x "open"))) := b2.get T.sw h1
  have l2 : H2 lf = some (.lst (ks.map fun k => V.ref k.2.1)) := b2.get T.wl.symm (b1.get T.sl.symm D.hlf)
  have nst : r ≠ st := (ne_of_none w2 f3).symm
  have nwy : r ≠ wy := (ne_of_none h2 f3).symm
  have nlf : r ≠ lf := (ne_of_none l2 f3).symm
  have keep : ∀ k ∈ ks, H2 k.2.1 = some (.lst (vN k.2.2)) := fun k hk => by
    obtain ⟨_, a2, _, ⟨a4, a5, _⟩, _⟩ := D.it k hk
    exact b2.get a5 (b1.get a4 a2)
  refine ⟨s4, b4.get T.sl (e3 _ _ w2), by rw [List.length_set]; exact D.len, ?_, ?_, fun k hk => ?_, ?_, ?_, fun y hy => ?_⟩
  · rw [b4.get T.wl (e3 _ _ h2), List.map_append]
    unfold vN
    rw [List.map_append]
    rfl
  · rw [h4, List.map_append]; rfl
  · rcases List.mem_append.mp hk with h | h
    · obtain ⟨a1, a2, a3, a4, a5⟩ := D.it k h
      exact ⟨a1, b4.get a4.2.2 (e3 _ _ (keep k h)), a3, a4, a5⟩
    · rw [List.mem_singleton] at h
      subst h
      exact ⟨hx, b4.get nlf h3, s2.free f3, ⟨nst, nwy, nlf⟩, hrow⟩
  · rw [List.map_append]
    refine List.nodup_append.mpr ⟨D.nd, by simp, fun a ha b hb => ?_⟩
    simp only [List.map_cons, List.map_nil, List.mem_singleton] at hb
    obtain ⟨k, hk, rfl⟩ := List.mem_map.mp ha
    rw [hb]
    exact ne_of_none (keep k hk) f3
  · refine List.pairwise_append.mpr ⟨D.ris, by simp, fun a ha b hb => ?_⟩
    rw [List.mem_singleton] at hb
    rw [hb]
    exact hr a ha
  · rw [List.map_append]
    by_cases e : y = x
    · exact List.mem_append_right _ (by simp [e])
    · rw [List.getElem?_set_ne (Ne.symm e)] at hy
      exact List.mem_append_left _ (D.op y hy)
/-- the last node is done -/
theorem Dfs.pop (T : Trio H0 st wy lf) (D : Dfs H0 H n ρ st wy lf (ks ++ [k]) ss) (b1 : But st H H1) (h1 : H1 st = some (.lst (vS (ss.set k.1 "done")))) (b2 : But wy H1 H2) (h2 : H2 wy = some (.lst (vN (ks.map fun k => k.1)))) (b3 : But lf H2 H3) (h3 : H3 lf = some (.lst (ks.map fun k => V.ref k.2.1))) :
    Dfs H0 H3 n ρ st wy lf ks (ss.set k.1 "done") := by
  have s3 := K11.Same.but (K11.Same.but (K11.Same.but D.same b1 T.fs) b2 T.fw) b3 T.fl
  refine ⟨s3, b3.get T.sl (b2.get T.sw h1), by rw [List.length_set]; exact D.len, b3.get T.wl h2, h3, fun j hj => ?_, ?_, (List.pairwise_append.mp D.ris).1, fun y hy => ?_⟩
  · obtain ⟨a1, a2, a3, a4, a5⟩ := D.it j (List.mem_append_left _ hj)
    exact ⟨a1, b3.get a4.2.2 (b2.get a4.2.1 (b1.get a4.1 a2)), a3, a4, a5⟩
  · have := D.nd
    rw [List.map_append] at this
    exact (List.nodup_append.mp this).1
  · by_cases e : y = k.1
    · subst e
      rw [List.getElem?_set] at hy
      split at hy
      · split at hy
        · exact absurd (Option.some.inj hy) (by decide)
        · cases hy
      · rename_i h
        exact absurd rfl h
    · rw [List.getElem?_set_ne (Ne.symm e)] at hy
      have := D.op y hy
      rw [List.map_append] at this
      rcases List.mem_append.mp this with h | h
      · exact h
      · simp only [List.map_cons, List.map_nil, List.mem_singleton] at h
        exact absurd h e
/-- a successor is taken from the last node's list -/
theorem Dfs.take (T : Trio H0 st wy lf) {x : Nat} {row : List Nat} (D : Dfs H0 H n ρ st wy lf (ks ++ [(x, r, row)]) ss) (b1 : But r H H1) (h1 : H1 r = some (.lst (vN row.dropLast))) : Dfs H0 H1 n ρ st wy lf (ks ++ [(x, r, row.dropLast)]) ss := by
  obtain ⟨a1, a2, a3, a4, a5⟩ := D.it (x, r, row) (List.mem_append_right _ List.mem_cons_self)
  have nd := D.nd
  rw [List.map_append] at nd
  refine ⟨K11.Same.but D.same b1 a3, b1.get a4.1.symm D.hst, D.len, ?_, ?_, fun j hj => ?_, ?_, ?_, fun y hy => ?_⟩
  · have := b1.get a4.2.1.symm D.hwy
    rw [this, List.map_append, List.map_append]
    rfl
  · have := b1.get a4.2.2.symm D.hlf
    rw [this, List.map_append, List.map_append]
    rfl
  · rcases List.mem_append.mp hj with h | h
    · obtain ⟨c1, c2, c3, c4, c5⟩ := D.it j (List.mem_append_left _ h)
      refine ⟨c1, b1.get (fun e => ?_) c2, c3, c4, c5⟩
      exact (List.nodup_append.mp nd).2.2 j.2.1 (List.mem_map.mpr ⟨j, h, rfl⟩) r (by simp) e
    · rw [List.mem_singleton] at h
      subst h
      exact ⟨a1, h1, a3, a4, fun y hy => a5 y (List.dropLast_subset _ hy)⟩
  · rw [List.map_append]
    exact nd
  · have := List.pairwise_append.mp D.ris
    exact List.pairwise_append.mpr ⟨this.1, by simp, fun a ha b hb => by
      rw [List.mem_singleton] at hb
      rw [hb]
      exact this.2.2 a ha (x, r, row) List.mem_cons_self⟩
  · have := D.op y hy
    rw [List.map_append] at this ⊢
    exact this
end
section
variable {P : Program} {w : World} {K : PySem.W.Frag} {mg : Str → Option Value} {base : Heap}
abbrev s_found_ring : Stmt := topS 12
abbrev N_found_ring : List Str := ["direct", "state", "first", "way", "left", "following"]
theorem sc_found_ring : FnScope N_found_ring ["direct"] (defScope s_found_ring) := ⟨rfl, rfl, rfl, by decide +kernel, rfl, by decide +kernel, by decide +kernel⟩
/-- what is asked of the lists of successors -/
structure Adj (H : Hp) (a : Addr) (n : Nat) (ρ : Nat → Nat) (rs : List Addr) (adj : List (List Nat)) : Prop where
  top : H a = some (.lst (rs.map V.ref))
  len : rs.length = n
  lad : adj.length = n
  at_ : ∀ (i : Nat) r, rs[i]? = some r → H r = some (.lst (vN (adj.getD i [])))
  ok : ∀ i, i < n → ∀ x ∈ adj.getD i [], x < n ∧ ρ i < ρ x
theorem Adj.same {H H' : Hp} {a : Addr} {n : Nat} {ρ : Nat → Nat} {rs : List Addr} {adj : List (List Nat)} (A : Adj H a n ρ rs adj) (e : Same H H') : Adj H' a n ρ rs adj :=
  ⟨e _ _ A.top, A.len, A.lad, fun i r h => e _ _ (A.at_ i r h), A.ok⟩
def spRing : Sp := fun vs H Q _ => ∃ (a : Addr) (n : Nat) (ρ : Nat → Nat) (rs : List Addr) (adj : List (List Nat)), vs = [.ref a] ∧ Adj H a n ρ rs adj ∧ n ≤ 100 ∧ nsum (List.replicate n "new") adj ≤ 100000 ∧ ∀ H', Same H H' → Q .non H'
theorem d_foundring (T : Blt mg) (t : TD K mg "found_ring" s_found_ring) : Df P w K mg base 1 "found_ring" spRing := by
  refine df_mk t sc_found_ring (fun _ _ _ _ _ _ us hl => match us, hl with | [_], _ => rfl) (fun vs H Q E h => ?_) (fun f cdv A outer s₀ H vs Q E hr h => ?_)
  · obtain ⟨a, n, ρ, rs, adj, rfl, _⟩ := h; rfl
  obtain ⟨a, n, ρ, rs, adj, rfl, A, hn, hB, q⟩ := h
  refine ⟨_, pss_cons (ps_set (i := 1) sc_found_ring.nd rfl (.inl rfl) (pe_op op_rep (pe_lst (pa_cons (pe_str) pa_nil)) (pe_callB (lenK (K := K) rfl) rfl T.b_len (by decide +kernel) (pa_cons (pv 0) pa_nil))))
      (pss_cons (ps_for PassesOwn.never rfl (pi_range1 rfl T.b_range (pa_cons (pe_callB (lenK (K := K) rfl) rfl T.b_len (by decide +kernel) (pa_cons (pv 0) pa_nil)) pa_nil)) (pg_name (i := 2) sc_found_ring.nd rfl (.inl rfl))
      (pss_cons (ps_set (i := 3) sc_found_ring.nd rfl (.inl rfl) (pe_lst pa_nil))
      (pss_cons (ps_set (i := 4) sc_found_ring.nd rfl (.inl rfl) (pe_lst pa_nil))
      (pss_cons (ps_if (pt_cmpR op_eq (pe_ix (ixK (K := K) rfl) (pv 1) (pv 2) (fun _ _ => rfl)) (pe_str) (nomark _))
      (pss_cons (ps_asg (pe_str) (pg_sub (pv 1) (pv 2) set_list))
      (pss_cons (ps_expr (pe_bm PySem.F.plainAttrs_list PySem.F.slot_list_append PySem.F.type_list_append mt_append (pv 3) (pa_cons (pv 2) pa_nil)))
      (pss_one (ps_expr (pe_bm PySem.F.plainAttrs_list PySem.F.slot_list_append PySem.F.type_list_append mt_append (pv 4) (pa_cons (pe_callTy (lstK (K := K) rfl) rfl T.b_list (by decide +kernel) (pa_cons (pe_ix (ixK (K := K) rfl) (pv 0) (pv 2) (fun _ _ => rfl)) pa_nil)) pa_nil))))))
      (pss_nil))
      (pss_one (ps_while PassesOwn.never (pt_cmpR op_gt (pe_callB (lenK (K := K) rfl) rfl T.b_len (by decide +kernel) (pa_cons (pv 3) pa_nil)) (pe_int) (nomark _))
      (pss_cons (ps_if (pt_cmpR op_eq (pe_callB (lenK (K := K) rfl) rfl T.b_len (by decide +kernel) (pa_cons (pe_ix (ixK (K := K) rfl) (pv 4) (pe_un un_neg (pe_int)) (fun _ _ => rfl)) pa_nil)) (pe_int) (nomark _))
      (pss_cons (ps_asg (pe_str) (pg_sub (pv 1) (pe_ix (ixK (K := K) rfl) (pv 3) (pe_un un_neg (pe_int)) (fun _ _ => rfl)) set_list))
      (pss_cons (ps_expr (pe_bm0 PySem.F.plainAttrs_list PySem.F.slot_list_pop PySem.F.type_list_pop mt_pop (pv 3)))
      (pss_cons (ps_expr (pe_bm0 PySem.F.plainAttrs_list PySem.F.slot_list_pop PySem.F.type_list_pop mt_pop (pv 4)))
      (pss_one (ps_continue)))))
      (pss_nil))
      (pss_cons (ps_set (i := 5) sc_found_ring.nd rfl (.inl rfl) (pe_bm0 PySem.F.plainAttrs_list PySem.F.slot_list_pop PySem.F.type_list_pop mt_pop (pe_ix (ixK (K := K) rfl) (pv 4) (pe_un un_neg (pe_int)) (fun _ _ => rfl))))
      (pss_cons (ps_if (pt_cmpR op_eq (pe_ix (ixK (K := K) rfl) (pv 1) (pv 5) (fun _ _ => rfl)) (pe_str) (nomark _))
      (pss_one (ps_never))
      (pss_nil))
      (pss_one (ps_if (pt_cmpR op_eq (pe_ix (ixK (K := K) rfl) (pv 1) (pv 5) (fun _ _ => rfl)) (pe_str) (nomark _))
      (pss_cons (ps_asg (pe_str) (pg_sub (pv 1) (pv 5) set_list))
      (pss_cons (ps_expr (pe_bm PySem.F.plainAttrs_list PySem.F.slot_list_append PySem.F.type_list_append mt_append (pv 3) (pa_cons (pv 5) pa_nil)))
      (pss_one (ps_expr (pe_bm PySem.F.plainAttrs_list PySem.F.slot_list_append PySem.F.type_list_append mt_append (pv 4) (pa_cons (pe_callTy (lstK (K := K) rfl) rfl T.b_list (by decide +kernel) (pa_cons (pe_ix (ixK (K := K) rfl) (pv 0) (pv 5) (fun _ _ => rfl)) pa_nil)) pa_nil))))))
      (pss_nil))))))))))))
      (pss_one (ps_ret (pe_non)))), ?_⟩
  have lrs := A.len
  have lad := A.lad
  have aS := SqL.of (K := K) A.top
  refine ⟨sz (by show 1 ≤ 1000000; decide), fun u nu => ?_⟩
  ktr_call (H1 e1 h1) nu
  refine ⟨_, rfl, a, _, rfl, .inl (e1.seq aS), u, ((rs.map V.ref).length : Nat), [.str "new"], rfl, rfl, h1, by omega, by rw [List.length_map]; omega, sz (by rw [Int.toNat_natCast, List.length_map, List.length_singleton]; omega), fun st nst => ?_⟩
  rw [Int.toNat_natCast, rep_flat, List.length_map, lrs]
  ktr_call (H2 e2 h2) nst
  have e12 := e1.trans e2
  have fst : H st = none := e1.free nst
  have hst2 : H2 st = some (.lst (vS (List.replicate n "new"))) := by rw [h2]; unfold vS; rw [List.map_replicate]
  refine ⟨_, rfl, a, _, rfl, .inl (e12.seq aS), for_r1 (n := n) (by rw [List.length_map, lrs]) (by omega) (fun i σ H3 => ∃ v2 v3 v4 v5 ss, σ = [some (.ref a), some (.ref st), v2, v3, v4, v5] ∧ Same H H3 ∧ H3 st = some (.lst (vS ss)) ∧ ss.length = n ∧ nsum ss adj ≤ 100000 ∧ ∀ x : Nat, ss[x]? ≠ some ("open" : Str)) ⟨none, none, none, none, _, rfl, e12, hst2, List.length_replicate .., hB, fun x h => ?_⟩ (fun i σ H3 hi hP => ?_) (fun σ H3 hP => ?_)⟩
  · rw [List.getElem?_replicate] at h
    split at h
    · exact absurd (Option.some.inj h) (by decide)
    · cases h
  · obtain ⟨v2, v3, v4, v5, ss, rfl, s3, hst, lss, hsum, hop⟩ := hP
    refine ⟨Nat.zero_le _, fun wy nwy => ?_⟩
    ktr_call (H4 e4 h4) nwy
    refine ⟨Nat.zero_le _, fun lf nlf => ?_⟩
    ktr_call (H5 e5 h5) nlf
    have s5 := (s3.trans e4).trans e5
    have TT : Trio H st wy lf := ⟨fst, s3.free nwy, (s3.trans e4).free nlf, ne_of_none hst nwy, ne_of_none (e4 _ _ hst) nlf, ne_of_none h4 nlf⟩
    have D0 : Dfs H H5 n ρ st wy lf [] ss := ⟨s5, e5 _ _ (e4 _ _ hst), lss, e5 _ _ h4, h5, fun k hk => (by cases hk), List.nodup_nil, List.Pairwise.nil, fun x hx => absurd hx (hop x)⟩
    have hi' : i < ss.length := by omega
    refine ⟨_, rfl, _, rfl, .inl ⟨st, _, i, _, rfl, rfl, SqL.of D0.hst, atn (vS_at hi'), rfl, _, rfl, ?_⟩⟩
    refine if_go (fun σ' H' => ∃ ks ss, Dfs H H' n ρ st wy lf ks ss ∧ fsum ks + nsum ss adj ≤ 100000 ∧ σ' = [some (.ref a), some (.ref st), some (.int (i : Nat)), some (.ref wy), some (.ref lf), v5]) (fun c go => ?_) (fun c => ⟨[], ss, D0, by show 0 + _ ≤ _; omega, rfl⟩) (fun σ' H' G => ?_)
    · -- a new node
      have c := V.str.inj (of_decide_eq_true c)
      refine ⟨_, rfl, _, rfl, st, _, i, i, rfl, rfl, D0.hst, ixn (by rw [vS_len]; exact hi'), ?_⟩
      tbr_iter (H6 b6 h6)
      rw [vS_set] at h6
      refine ⟨_, rfl, .inl ⟨rfl, _, SqL.of (b6.get TT.sw.symm D0.hwy)⟩, _, rfl, wy, _, _, rfl, rfl, b6.get TT.sw.symm D0.hwy, szl (by show 0 < 1000000; decide), ?_⟩
      tbr_iter (H7 b7 h7)
      have lf7 := b7.get TT.wl.symm (b6.get TT.sl.symm D0.hlf)
      have s7 := K11.Same.but (K11.Same.but D0.same b6 TT.fs) b7 TT.fw
      have A7 := A.same s7
      have hri : rs[i]? = some rs[i] := List.getElem?_eq_getElem (by omega)
      refine ⟨_, rfl, .inl ⟨rfl, _, SqL.of lf7⟩, _, rfl, _, rfl, .inl ⟨a, _, i, .ref rs[i], rfl, rfl, SqL.of A7.top, atn (by rw [List.getElem?_map, hri]; rfl), rs[i], _, rfl, .inl (SqL.of (A7.at_ i _ hri)), fun r nr => ?_⟩⟩
      ktr_call (H8 e8 h8) nr
      refine ⟨lf, _, _, rfl, rfl, e8 _ _ lf7, szl (by show 0 < 1000000; decide), ?_⟩
      tbr_iter (H9 b9 h9)
      refine go _ _ ⟨_, _, D0.push TT (x := i) (row := adj.getD i []) hi (A.ok i hi) (fun k hk => by cases hk) b6 h6 b7 h7 e8 nr h8 b9 h9, ?_, rfl⟩
      have := nsum_new hi' (show i < adj.length by omega) c (x := "open") (by decide)
      have e : adj.getD i [] = adj[i]'(by omega) := by simp [show i < adj.length by omega]
      rw [fsum_snoc]
      show 0 + ((adj.getD i []).length + 1) + _ ≤ _
      rw [e]
      omega
    -- while
    obtain ⟨ks, ss, D, hm, rfl⟩ := G
    clear D0 hst lss hsum hop hi' h4 h5 e4 e5 nwy nlf s5
    refine ⟨fun m σ H' => ∃ v5 ks ss, m = fsum ks + nsum ss adj ∧ m ≤ 100000 ∧ Dfs H H' n ρ st wy lf ks ss ∧ σ = [some (.ref a), some (.ref st), some (.int (i : Nat)), some (.ref wy), some (.ref lf), v5], ⟨_, v5, ks, ss, rfl, hm, D, rfl⟩, fun m σ H6 hW => ?_⟩
    clear D hm
    obtain ⟨v5, ks, ss, rfl, hm, D, rfl⟩ := hW
    have lss := D.len
    refine ⟨_, rfl, wy, _, rfl, .inl (SqL.of D.hwy), _, _, rfl, rfl, _, rfl, ite2 (fun c => ⟨_, fun _ _ h => h, ?_⟩) (fun c => ?_)⟩
    · have c := of_decide_eq_true c
      rcases List.eq_nil_or_concat ks with rfl | ⟨ks0, k, rfl⟩
      · exact absurd c (by decide)
      obtain ⟨x, r, row⟩ := k
      rw [List.concat_eq_append] at D hm ⊢
      obtain ⟨hx, hrr, _, hne, hrow⟩ := D.it (x, r, row) (List.mem_append_right _ List.mem_cons_self)
      have hx : x < n := hx
      have hrr : H6 r = some (.lst (vN row)) := hrr
      have hne : r ≠ st ∧ r ≠ wy ∧ r ≠ lf := hne
      have hrow : ∀ y ∈ row, y < n ∧ ρ x < ρ y := hrow
      have hks0 : ∀ j ∈ ks0, ρ j.1 < ρ x := fun j hj => (List.pairwise_append.mp D.ris).2.2 j hj (x, r, row) List.mem_cons_self
      have hlf := D.hlf
      have hwy := D.hwy
      rw [List.map_append] at hlf hwy
      have hx' : x < ss.length := by omega
      rw [fsum_snoc] at hm ⊢
      have hm : fsum ks0 + (row.length + 1) + nsum ss adj ≤ 100000 := hm
      show tSeq _ _ _ _ _
      have lk := fsum_len ks0
      refine ⟨_, rfl, _, rfl, .inl ⟨lf, _, -1, .ref r, rfl, rfl, SqL.of hlf, atI_last _ _, r, _, rfl, .inl (SqL.of hrr), rfl, _, rfl, ite2 (fun c1 => ?_) (fun c1 => ?_)⟩⟩
      · rw [vN_len] at c1
        have c1 : row = [] := List.eq_nil_of_length_eq_zero (by have := V.int.inj (of_decide_eq_true c1); omega)
        subst c1
        -- the last node is done
        have hwx : atI (vN (ks0.map fun k => k.1) ++ [V.int (x : Nat)]) (-1) = some (.int (x : Nat)) := atI_last _ _
        have hwy' : H6 wy = some (.lst (vN (ks0.map fun k => k.1) ++ [V.int (x : Nat)])) := by rw [hwy]; unfold vN; rw [List.map_append]; rfl
        refine ⟨_, rfl, _, rfl, _, rfl, .inl ⟨wy, _, -1, _, rfl, rfl, SqL.of hwy', hwx, st, _, x, x, rfl, rfl, D.hst, ixn (by rw [vS_len]; exact hx'), ?_⟩⟩
        tbr_iter (H7 b7 h7)
        rw [vS_set] at h7
        refine ⟨_, rfl, .inl ⟨rfl, _, SqL.of (b7.get TT.sw.symm hwy')⟩, wy, _, .int (x : Nat), rfl, rfl, b7.get TT.sw.symm hwy', by simp, ?_⟩
        tbr_iter (H8 b8 h8)
        rw [List.dropLast_concat] at h8
        have hlf' : H8 lf = some (.lst ((ks0.map fun k => V.ref k.2.1) ++ [.ref r])) := b8.get TT.wl.symm (b7.get TT.sl.symm hlf)
        refine ⟨_, rfl, .inl ⟨rfl, _, SqL.of hlf'⟩, lf, _, .ref r, rfl, rfl, hlf', by simp, ?_⟩
        tbr_iter (H9 b9 h9)
        rw [List.dropLast_concat] at h9
        have D9 := D.pop TT b7 h7 b8 h8 b9 h9
        by_cases o : ss[x] = "new"
        · have e := nsum_new hx' (show x < adj.length by omega) o (x := "done") (by decide)
          refine ⟨fsum ks0 + nsum (ss.set x "done") adj, ?_, v5, ks0, ss.set x "done", rfl, ?_, D9, rfl⟩
          · show _ < fsum ks0 + (0 + 1) + nsum ss adj
            omega
          · omega
        · have e := nsum_old (as := adj) hx' (x := "done") o (by decide)
          refine ⟨fsum ks0 + nsum (ss.set x "done") adj, ?_, v5, ks0, ss.set x "done", rfl, ?_, D9, rfl⟩
          · show _ < fsum ks0 + (0 + 1) + nsum ss adj
            omega
          · omega
      · have c1 : row ≠ [] := fun e => c1 (by rw [e]; exact decide_eq_true rfl)
        obtain ⟨row0, y, rfl⟩ : ∃ row0 y, row = row0 ++ [y] := by
          rcases List.eq_nil_or_concat row with h | ⟨a, b, h⟩
          · exact absurd h c1
          · exact ⟨a, b, by rw [h, List.concat_eq_append]⟩
        obtain ⟨hy, hxy⟩ := hrow y (List.mem_append_right _ List.mem_cons_self)
        have hrr' : H6 r = some (.lst (vN row0 ++ [V.int (y : Nat)])) := by rw [hrr]; unfold vN; rw [List.map_append]; rfl
        refine ⟨_, rfl, _, rfl, .inl ⟨lf, _, -1, .ref r, rfl, rfl, SqL.of hlf, atI_last _ _, .inl ⟨rfl, _, SqL.of hrr⟩, r, _, .int (y : Nat), rfl, rfl, hrr', by simp, ?_⟩⟩
        tbr_iter (H7 b7 h7)
        rw [List.dropLast_concat] at h7
        have D7 : Dfs H H7 n ρ st wy lf (ks0 ++ [(x, r, row0)]) ss := by
          have := D.take TT b7 (by rw [h7, List.dropLast_concat])
          rwa [List.dropLast_concat] at this
        have ly : y < ss.length := by omega
        have notOpen : ss[y] ≠ "open" := fun o => by
          have := D7.op y (by rw [List.getElem?_eq_getElem ly, o])
          obtain ⟨j, hj, rfl⟩ := List.mem_map.mp this
          rcases List.mem_append.mp hj with h | h
          · have := hks0 j h
            omega
          · rw [List.mem_singleton] at h
            subst h
            exact Nat.lt_irrefl _ hxy
        have ll : (row0 ++ [y]).length = row0.length + 1 := by simp
        rw [ll] at hm
        refine ⟨_, rfl, _, rfl, .inl ⟨st, _, y, _, rfl, rfl, SqL.of D7.hst, atn (vS_at ly), rfl, _, rfl, ite2 (fun c2 => absurd (V.str.inj (of_decide_eq_true c2)) notOpen) (fun _ => ?_)⟩⟩
        refine ⟨_, rfl, _, rfl, .inl ⟨st, _, y, _, rfl, rfl, SqL.of D7.hst, atn (vS_at ly), rfl, _, rfl, ite2 (fun c2 => ?_) (fun c2 => ?_)⟩⟩
        · have c2 := V.str.inj (of_decide_eq_true c2)
          refine ⟨_, rfl, _, rfl, st, _, y, y, rfl, rfl, D7.hst, ixn (by rw [vS_len]; exact ly), ?_⟩
          tbr_iter (H8 b8 h8)
          rw [vS_set] at h8
          have wy8 := b8.get TT.sw.symm D7.hwy
          have lw : (vN ((ks0 ++ [(x, r, row0)]).map fun k => k.1)).length ≤ fsum ks0 + 1 := by
            rw [vN_len, List.length_map, List.length_append, List.length_singleton]
            omega
          refine ⟨_, rfl, .inl ⟨rfl, _, SqL.of wy8⟩, _, rfl, wy, _, _, rfl, rfl, wy8, szl (by omega), ?_⟩
          tbr_iter (H9 b9 h9)
          have lf9 := b9.get TT.wl.symm (b8.get TT.sl.symm D7.hlf)
          have s9 := K11.Same.but (K11.Same.but D7.same b8 TT.fs) b9 TT.fw
          have A9 := A.same s9
          have hri : rs[y]? = some rs[y] := List.getElem?_eq_getElem (by omega)
          refine ⟨_, rfl, .inl ⟨rfl, _, SqL.of lf9⟩, _, rfl, _, rfl, .inl ⟨a, _, y, .ref rs[y], rfl, rfl, SqL.of A9.top, atn (by rw [List.getElem?_map, hri]; rfl), rs[y], _, rfl, .inl (SqL.of (A9.at_ y _ hri)), fun r2 nr2 => ?_⟩⟩
          ktr_call (HA eA hA) nr2
          have ll2 : ((ks0 ++ [(x, r, row0)]).map fun k => V.ref k.2.1).length ≤ fsum ks0 + 1 := by
            rw [List.length_map, List.length_append, List.length_singleton]
            omega
          refine ⟨lf, _, _, rfl, rfl, eA _ _ lf9, szl (by omega), ?_⟩
          tbr_iter (HB bB hB)
          have DB := D7.push TT (x := y) (row := adj.getD y []) hy (A.ok y hy) (fun k hk => ?_) b8 h8 b9 h9 eA nr2 hA bB hB
          · have e1 := nsum_new ly (show y < adj.length by omega) c2 (x := "open") (by decide)
            have e2 : adj.getD y [] = adj[y]'(by omega) := by simp [show y < adj.length by omega]
            refine ⟨fsum (ks0 ++ [(x, r, row0)] ++ [(y, r2, adj.getD y [])]) + nsum (ss.set y "open") adj, ?_, _, _, _, rfl, ?_, DB, rfl⟩
            · rw [fsum_snoc, fsum_snoc, e2]
              show fsum ks0 + (row0.length + 1) + ((adj[y]'_).length + 1) + _ < fsum ks0 + ((row0 ++ [y]).length + 1) + nsum ss adj
              rw [ll]
              omega
            · rw [fsum_snoc, fsum_snoc, e2]
              show fsum ks0 + (row0.length + 1) + ((adj[y]'_).length + 1) + _ ≤ _
              omega
          · rcases List.mem_append.mp hk with h | h
            · have := hks0 k h
              omega
            · rw [List.mem_singleton] at h
              subst h
              exact hxy
        · refine ⟨fsum (ks0 ++ [(x, r, row0)]) + nsum ss adj, ?_, _, _, _, rfl, ?_, D7, rfl⟩
          · rw [fsum_snoc]
            show fsum ks0 + (row0.length + 1) + _ < fsum ks0 + ((row0 ++ [y]).length + 1) + nsum ss adj
            rw [ll]
            omega
          · rw [fsum_snoc]
            show fsum ks0 + (row0.length + 1) + _ ≤ _
            omega
    · have e : ks = [] := by
        cases ks with
        | nil => rfl
        | cons k ks => exact absurd (decide_eq_true (by rw [vN_len, List.map_cons, List.length_cons]; omega)) c
      subst e
      refine ⟨_, _, _, _, ss, rfl, D.same, D.hst, D.len, ?_, fun x hx => ?_⟩
      · have : fsum [] = 0 := rfl
        omega
      · have := D.op x hx
        cases this
  · obtain ⟨v2, v3, v4, v5, ss, rfl, s3, _⟩ := hP
    exact q H3 s3
end
end K11
set_option maxHeartbeats 4000000

/-! B19: the class Order: bundles, size, above, upper_covers. -/
namespace K11
open PySem PySem.Spec PyProof.Rows L2
/-- a method of a class that keeps a promise -/
def Dm (P : Program) (w : World) (K : PySem.W.Frag) (mg : Str → Option Value) (base : Heap) (k : Nat) (C : Addr) (m : Str) (sp : Sp) : Prop :=
  ∃ f fd ps, FnOk P w K mg base CX0 k f fd ps sp ∧ Meth K C m f ∧ Binds K fd ps []
/-- a property's getter -/
def Dg (P : Program) (w : World) (K : PySem.W.Frag) (mg : Str → Option Value) (base : Heap) (k : Nat) (C : Addr) (x f : Str) : Prop :=
  ∃ p g fd ps, FnOk P w K mg base CX0 k g fd ps (getSp C f) ∧ PropOf K C x p g ∧ Binds K fd ps []
/-- what makes an instance -/
def Dk (P : Program) (w : World) (K : PySem.W.Frag) (mg : Str → Option Value) (base : Heap) (k : Nat) (x : Str) (C : Addr) (sp : Sp) : Prop :=
  ∃ f fd ps, FnOk P w K mg base CX0 k f fd ps sp ∧ Mk K C f ∧ Binds K fd ps [] ∧ mg x = some (.ref C)
theorem pe_dm {X : Cx} {k j : Nat} {C : Addr} {m : Str} {sp : Sp} {o e : Expr} {es : List Expr} {apos pos : Pos} {ta : TE} {t : TA} {pl : Sem Bool} (d : Dm X.prog X.w X.K X.mg X.base k C m sp) (c : Cls X.K C) (hr : Room j X.A) (hk : k ≤ j) (he : PE X o ta) (ha : PA X (e :: es) t)
    (hst : starEach (e :: es) X.env = (false, eval e X.env) :: starEach es X.env := by rfl) (hpl : (backTo pos (starEach es X.env)).any (·.1) = false := by rfl)
    (ht : eval (.Call (.Attribute o m apos) (e :: es) [] pos) X.env = (do
      let ov ← eval o X.env
      standAt apos.atName
      let (f, first) ← holding [ov] (getMethod ov m pl)
      callWith pos f first (backTo pos (starEach (e :: es) X.env)) (backToKw pos (keywordEach [] X.env))) := by rfl) :
    PE X (.Call (.Attribute o m apos) (e :: es) [] pos) (tMeth C m sp [] E0 ta t) := by
  obtain ⟨f, fd, ps, F, M, B⟩ := d
  exact pe_meth he c M F (hr.mono hk) B .nil pass0 ha hst hpl ht
theorem pe_dg {X : Cx} {k j : Nat} {C : Addr} {x f : Str} {e : Expr} {pos : Pos} {ta : TE} (d : Dg X.prog X.w X.K X.mg X.base k C x f) (c : Cls X.K C) (hr : Room j X.A) (hk : k + 1 ≤ j) (he : PE X e ta)
    (hab : attributeBase e x X.env (eval e X.env) = eval e X.env) : PE X (.Attribute e x pos) (tProp C (getSp C f) [] E0 ta) := by
  obtain ⟨p, g, fd, ps, F, M, B⟩ := d
  exact pe_prop he c M F (hr.mono hk) B .nil pass0 hab
theorem pe_dk {X : Cx} {k j : Nat} {x : Str} {C : Addr} {sp : Sp} {p pos : Pos} {e : Expr} {es : List Expr} {t : TA} (d : Dk X.prog X.w X.K X.mg X.base k x C sp) (hr : Room j X.A) (hk : k + 1 ≤ j) (hg : Gl X x) (ha : PA X (e :: es) t)
    (hdb : (x == ("__debug__" : Str)) = false := by decide) (he : starEach (e :: es) X.env = (false, eval e X.env) :: starEach es X.env := by rfl) (hpl : (backTo pos (starEach es X.env)).any (·.1) = false := by rfl) :
    PE X (.Call (.Name x p) (e :: es) [] pos) (tMake C sp [] E0 t) := by
  obtain ⟨f, fd, ps, F, M, B, hm⟩ := d
  exact pe_make M F (hr.mono hk) hg hm B .nil pass0 ha hdb he hpl
/-- a method of the text, as it stands behind the top -/
def TM (K : PySem.W.Frag) (C : Addr) (x qual : Str) (st : Stmt) : Prop := ∃ f fd, FunD K x qual (defArgs st) (defBody st) (defScope st) [] [] f fd ∧ Meth K C x f
/-- the class -/
structure OC (K : PySem.W.Frag) (C : Addr) : Prop where
  cls : Cls K C
  nS : NoAttr K C "_size"
  nU : NoAttr K C "_up"
  nD : NoAttr K C "_down"
  nP : NoAttr K C "_pairs"
/-- an order at o: so many elements, the masks of what is above each -/
def OrdAt (H : Hp) (o C : Addr) (n : Nat) (ms : List Nat) : Prop := ∃ dx fs u, H o = some (.ins C dx fs) ∧ fs.lookup ("_size" : Str) = some (.int n) ∧ fs.lookup ("_up" : Str) = some (.ref u) ∧ fs.lookup ("above" : Str) = none ∧ fs.lookup ("upper_covers" : Str) = none ∧ H u = some (.lst (vN ms)) ∧ ms.length = n ∧ n ≤ 100 ∧ ∀ m ∈ ms, m < 2 ^ n
theorem OrdAt.same {H H' : Hp} {o C : Addr} {n : Nat} {ms : List Nat} (h : OrdAt H o C n ms) (e : Same H H') : OrdAt H' o C n ms := by
  obtain ⟨dx, fs, u, h1, h2, h3, h4, h5, h6, h7⟩ := h
  exact ⟨dx, fs, u, e _ _ h1, h2, h3, h4, h5, e _ _ h6, h7⟩
/-- the masks of all elements of a mask -/
def orAll (n : Nat) (ms : List Nat) (m : Nat) : Nat := (bitsOf n m).foldl (fun f j => f ||| ms.getD j 0) 0
def ucM (n : Nat) (ms : List Nat) (i : Nat) : List Nat := bitsOf n (wo (ms.getD i 0) (orAll n ms (ms.getD i 0)))
theorem getD_lt {ms : List Nat} {n i : Nat} (h : ∀ m ∈ ms, m < 2 ^ n) : ms.getD i 0 < 2 ^ n := by
  by_cases hi : i < ms.length
  · have e : ms.getD i 0 = ms[i] := by simp [hi]
    rw [e]
    exact h _ (List.getElem_mem hi)
  · have e : ms.getD i 0 = 0 := by simp [Nat.le_of_not_lt hi]
    rw [e]
    exact Nat.two_pow_pos n
section
variable {P : Program} {w : World} {K : PySem.W.Frag} {mg : Str → Option Value} {base : Heap} {C : Addr}
theorem dm_mk {x qual : Str} {st : Stmt} {N ps : List Str} {k : Nat} {sp : Sp} (T : TM K C x qual st) (S : FnScope N ps (defScope st))
    (bi : ∀ (kV doc pm : Value) (an : Option Addr) (cdv ct : Value) (us : List Value), us.length = ps.length → bindArgs (PySem.W.fnOf x qual (defArgs st) (defBody st) (defScope st) .none kV doc pm an cdv ct) ⟨us, []⟩ = pure (ps.zip us))
    (len : ∀ vs H Q E, sp vs H Q E → vs.length = ps.length)
    (hb : ∀ (f : Addr) (cdv : Value) (A : Around) (outer : List Env) (s : Shared) (H : Hp) (vs : List V) (Q : VK) (E : XK), Room k (A.deeper (envOfC qual (defScope st) s.heap.objs.size f cdv)) → sp vs H Q E →
      ∃ t, PSs (cxOf CX0 P w K mg base N qual (defScope st) f cdv A outer s H E).nox (defBody st) t ∧ t { nx := fun _ H' => Q .non H', rt := Q } (start N vs) H) : Dm P w K mg base (k + 1) C x sp := by
  obtain ⟨f, fd, F, hm⟩ := T
  refine ⟨f, fd, ps, F.ok S len fun cdv A outer s H vs Q E hr hs => ?_, hm, F.bindsN bi⟩
  obtain ⟨t, ht, q⟩ := hb f cdv A outer s H vs Q E hr hs
  exact ⟨t, PSs.nox ht, q⟩
abbrev s_Order_above : Stmt := inClass (topS 14) 9
abbrev N_Order_above : List Str := ["self", "element"]
theorem sc_Order_above : FnScope N_Order_above ["self", "element"] (defScope s_Order_above) := ⟨rfl, rfl, rfl, by decide +kernel, rfl, by decide +kernel, by decide +kernel⟩
def spAbove (C : Addr) (K : PySem.W.Frag) : Sp := fun vs H Q _ => ∃ (o : Addr) (n i : Nat) (ms : List Nat), vs = [.ref o, .int i] ∧ OrdAt H o C n ms ∧ i < n ∧ ∀ r H', H r = none → Same H H' → LA K H' r (isL (bitsOf n (ms.getD i 0))) → Q (.ref r) H'
theorem d_above (T : Blt mg) (O : OC K C) (t : TM K C "above" "Order.above" s_Order_above) (d_elements_of : Df P w K mg base 1 "elements_of" (spElems K)) : Dm P w K mg base 2 C "above" (spAbove C K) := by
  refine dm_mk t sc_Order_above (fun _ _ _ _ _ _ us hl => match us, hl with | [_, _], _ => rfl) (fun vs H Q E h => ?_) (fun f cdv A outer s₀ H vs Q E hr h => ?_)
  · obtain ⟨o, n, i, ms, rfl, _⟩ := h; rfl
  obtain ⟨o, n, i, ms, rfl, hO, hi, q⟩ := h
  refine ⟨_, pss_one (ps_ret (pe_df d_elements_of hr (by decide) rfl (pa_cons (pe_ix (ixK (K := K) rfl) (pe_fld (pv 0) rfl) (pv 1) (fun _ _ => rfl)) pa_nil))), ?_⟩
  obtain ⟨dx, fs, u, h1, h2, h3, h4, h5, h6, h7, h8, h9⟩ := hO
  refine ⟨_, rfl, o, C, dx, fs, _, rfl, h1, O.cls, O.nU, h3, _, rfl, .inl ⟨u, _, i, _, rfl, rfl, SqL.of h6, atn (vN_d (by omega)), ?_⟩⟩
  exact ⟨ms.getD i 0, n, rfl, getD_lt h9, h8, fun r H' nr s1 hL => q r H' nr s1 hL⟩

abbrev s_Order_upper_covers : Stmt := inClass (topS 14) 12
abbrev N_Order_upper_covers : List Str := ["self", "element", "further", "higher"]
theorem sc_Order_upper_covers : FnScope N_Order_upper_covers ["self", "element"] (defScope s_Order_upper_covers) := ⟨rfl, rfl, rfl, by decide +kernel, rfl, by decide +kernel, by decide +kernel⟩
def spUC (C : Addr) (K : PySem.W.Frag) : Sp := fun vs H Q _ => ∃ (o : Addr) (n i : Nat) (ms : List Nat), vs = [.ref o, .int i] ∧ OrdAt H o C n ms ∧ i < n ∧ ∀ r H', H r = none → Same H H' → LA K H' r (isL (ucM n ms i)) → Q (.ref r) H'
theorem d_uc (T : Blt mg) (O : OC K C) (t : TM K C "upper_covers" "Order.upper_covers" s_Order_upper_covers) (d_elements_of : Df P w K mg base 1 "elements_of" (spElems K)) (d_above : Dm P w K mg base 2 C "above" (spAbove C K)) : Dm P w K mg base 3 C "upper_covers" (spUC C K) := by
  refine dm_mk t sc_Order_upper_covers (fun _ _ _ _ _ _ us hl => match us, hl with | [_, _], _ => rfl) (fun vs H Q E h => ?_) (fun f cdv A outer s₀ H vs Q E hr h => ?_)
  · obtain ⟨o, n, i, ms, rfl, _⟩ := h; rfl
  obtain ⟨o, n, i, ms, rfl, hO, hi, q⟩ := h
  refine ⟨_, pss_cons (ps_set (i := 2) sc_Order_upper_covers.nd rfl (.inl rfl) (pe_int))
      (pss_cons (ps_for PassesOwn.never rfl (pi_list (pe_dm d_above O.cls hr (by decide) (pv 0) (pa_cons (pv 1) pa_nil))) (pg_name (i := 3) sc_Order_upper_covers.nd rfl (.inl rfl))
      (pss_one (ps_set (i := 2) sc_Order_upper_covers.nd rfl (.inl rfl) (pe_op op_orN (pv 2) (pe_ix (ixK (K := K) rfl) (pe_fld (pv 0) rfl) (pv 3) (fun _ _ => rfl))))))
      (pss_one (ps_ret (pe_df d_elements_of hr (by decide) rfl (pa_cons (pe_op op_and (pe_ix (ixK (K := K) rfl) (pe_fld (pv 0) rfl) (pv 1) (fun _ _ => rfl)) (pe_un un_inv (pv 2))) pa_nil))))), ?_⟩
  have hO' := hO
  obtain ⟨dx, fs, u, h1, h2, h3, h4, h5, h6, h7, h8, h9⟩ := hO'
  refine ⟨_, rfl, o, dx, fs, rfl, h1, h4, _, rfl, o, n, i, ms, rfl, hO, hi, fun r H1 nr s1 hL => ?_⟩
  obtain ⟨xs, hx, hd⟩ := hL
  have hx' := dpa_isL_eq hd
  subst hx'
  generalize hbs : bitsOf n (ms.getD i 0) = bs at hx
  have bbs : ∀ j ∈ bs, j < n := fun j hj => by rw [← hbs] at hj; exact (mem_bits.mp hj).1
  refine ⟨r, rfl, ⟨_, SqL.of hx⟩, for_list (K := K) (a := r) (xs := vN bs) (fun k σ H2 => ∃ v3, σ = [some (.ref o), some (.int (i : Nat)), some (.int ((bs.take k).foldl (fun f j => f ||| ms.getD j 0) 0 : Nat)), v3] ∧ H1 = H2) ⟨none, rfl, rfl⟩ (fun k σ H2 _ ⟨_, _, e⟩ => by rw [← e]; exact SqL.of hx) (fun k x σ H2 hxk hP => ?_) (fun σ H2 hP => ?_)⟩
  · obtain ⟨v3, rfl, rfl⟩ := hP
    have hk : k < bs.length := by have := (List.getElem?_eq_some_iff.mp hxk).1; rw [vN_len] at this; exact this
    rw [vN_at hk] at hxk
    cases hxk
    have hj := bbs _ (List.getElem_mem hk)
    refine ⟨_, rfl, _, rfl, o, C, dx, fs, _, rfl, s1 _ _ h1, O.cls, O.nU, h3, _, rfl, .inl ⟨u, _, (bs[k] : Nat), _, rfl, rfl, SqL.of (s1 _ _ h6), atn (vN_d (by omega)), _, _, rfl, rfl, ?_⟩⟩
    refine ⟨some (.int (bs[k] : Nat)), ?_, rfl⟩
    rw [List.take_add_one, List.getElem?_eq_getElem hk, Option.toList_some, List.foldl_append]
    rfl
  · obtain ⟨v3, rfl, rfl⟩ := hP
    rw [vN_len, List.take_length]
    have ef : bs.foldl (fun f j => f ||| ms.getD j 0) 0 = orAll n ms (ms.getD i 0) := by unfold orAll; rw [hbs]
    rw [ef]
    refine ⟨_, rfl, o, C, dx, fs, _, rfl, s1 _ _ h1, O.cls, O.nU, h3, _, rfl, .inl ⟨u, _, i, _, rfl, rfl, SqL.of (s1 _ _ h6), atn (vN_d (by omega)), _, rfl, _, rfl, _, _, rfl, rfl, ?_⟩⟩
    refine ⟨wo (ms.getD i 0) (orAll n ms (ms.getD i 0)), n, by show ([V.int (Builtin.bitAnd (ms.getD i 0 : Nat) (Builtin.bitNot (orAll n ms (ms.getD i 0) : Nat)))] : List V) = _; rw [andNot_nat], Nat.lt_of_le_of_lt (wo_le _ _) (getD_lt h9), h8, fun r2 H3 nr2 s2 hL2 => q r2 H3 (s1.free nr2) (s1.trans s2) hL2⟩
end
end K11
set_option maxHeartbeats 4000000

/-! B20: Order.__init__. -/
namespace K11
open PySem PySem.Spec PyProof.Rows L2
/-- all but o is as it was -/
def SameX (o : Addr) (H H' : Hp) : Prop := ∀ b u, b ≠ o → H b = some u → H' b = some u
section
variable {o l : Addr} {H H' H'' : Hp}
theorem SameX.of (e : Same H H') : SameX o H H' := fun b u _ h => e b u h
theorem SameX.same (a : SameX o H H') (e : Same H' H'') : SameX o H H'' := fun b u n h => e _ _ (a b u n h)
theorem SameX.own (a : SameX o H H') (e : But o H' H'') : SameX o H H'' := fun b u n h => e.get n (a b u n h)
theorem SameX.but (a : SameX o H H') (e : But l H' H'') (h : H l = none) : SameX o H H'' := fun b u n h' => e.get (ne_of_none h' h) (a b u n h')
theorem SameX.free (a : SameX o H H') {p : Addr} (n : p ≠ o) (h : H' p = none) : H p = none := by
  cases q : H p with
  | none => rfl
  | some u => rw [a p u n q] at h; cases h
end
/-- the successors of i, in the order of the pairs -/
def adjF (ps : List (Nat × Nat)) (i : Nat) : List Nat := (ps.filter fun p => decide (p.1 = i)).map fun p => p.2
theorem adjF_snoc (ps : List (Nat × Nat)) (p : Nat × Nat) (i : Nat) : adjF (ps ++ [p]) i = if p.1 = i then adjF ps i ++ [p.2] else adjF ps i := by
  unfold adjF
  rw [List.filter_append, List.map_append]
  by_cases h : p.1 = i
  · rw [if_pos h]; simp [h]
  · rw [if_neg h]; simp [h]
theorem mem_adjF {ps : List (Nat × Nat)} {i x : Nat} : x ∈ adjF ps i ↔ (i, x) ∈ ps := by
  unfold adjF
  rw [List.mem_map]
  constructor
  · rintro ⟨⟨a, b⟩, hp, rfl⟩
    obtain ⟨h1, h2⟩ := List.mem_filter.mp hp
    have h2 := of_decide_eq_true h2
    simp only at h2
    subst h2
    exact h1
  · intro h
    exact ⟨(i, x), List.mem_filter.mpr ⟨h, by simp⟩, rfl⟩
theorem adjF_len (ps : List (Nat × Nat)) (i : Nat) : (adjF ps i).length ≤ ps.length := by
  unfold adjF
  rw [List.length_map]
  exact List.length_filter_le _ _
def adjs (n : Nat) (ps : List (Nat × Nat)) : List (List Nat) := (List.range n).map (adjF ps)
theorem adjs_len (n : Nat) (ps : List (Nat × Nat)) : (adjs n ps).length = n := by unfold adjs; simp
theorem adjs_at (n : Nat) (ps : List (Nat × Nat)) {i : Nat} (h : i < n) : (adjs n ps).getD i [] = adjF ps i := by unfold adjs; simp [h]
theorem nsum_le (b : Nat) : ∀ (ss : List Str) (as : List (List Nat)), (∀ a ∈ as, a.length ≤ b) → nsum ss as ≤ as.length * (b + 2)
  | [], as, _ => by cases as <;> exact Nat.zero_le _
  | s :: ss, [], _ => Nat.zero_le _
  | s :: ss, a :: as, h => by
    have ih := nsum_le b ss as fun x hx => h x (List.mem_cons_of_mem _ hx)
    have h1 := h a List.mem_cons_self
    show (if s = "new" then a.length + 2 else 0) + nsum ss as ≤ _
    rw [List.length_cons, Nat.succ_mul]
    split <;> omega
/-- the masks of what is above -/
def upM (n : Nat) (ps : List (Nat × Nat)) : List Nat := closeM ((adjs n ps).map maskOf) n
theorem upM_len (n : Nat) (ps : List (Nat × Nat)) : (upM n ps).length = n := by unfold upM; rw [closeM_len, List.length_map, adjs_len]
theorem or_lt {a b n : Nat} (h : a < 2 ^ n) (g : b < 2 ^ n) : a ||| b < 2 ^ n := Nat.or_lt_two_pow h g
theorem maskOf_lt {n : Nat} : ∀ (ns : List Nat) (m : Nat), m < 2 ^ n → (∀ x ∈ ns, x < n) → ns.foldl (fun m e => m ||| 2 ^ e) m < 2 ^ n
  | [], _, h, _ => h
  | x :: ns, m, h, g => maskOf_lt ns _ (or_lt h (Nat.pow_lt_pow_right (by decide) (g x List.mem_cons_self))) fun y hy => g y (List.mem_cons_of_mem _ hy)
theorem closeM_lt {n : Nat} {ms : List Nat} (h : ∀ m ∈ ms, m < 2 ^ n) (k : Nat) : ∀ m ∈ closeM ms k, m < 2 ^ n := by
  induction k with
  | zero => exact h
  | succ k ih =>
    rw [closeM_succ]
    unfold mphase
    intro m hm
    obtain ⟨x, hx, rfl⟩ := List.mem_map.mp hm
    have h1 := ih x hx
    unfold mf
    split
    · exact or_lt h1 (getD_lt ih)
    · exact h1
theorem upM_lt {n : Nat} {ps : List (Nat × Nat)} (h : Below n ps) : ∀ m ∈ upM n ps, m < 2 ^ n := by
  refine closeM_lt (fun m hm => ?_) n
  obtain ⟨r, hr, rfl⟩ := List.mem_map.mp hm
  unfold adjs at hr
  obtain ⟨i, _, rfl⟩ := List.mem_map.mp hr
  exact maskOf_lt _ 0 (Nat.two_pow_pos n) fun x hx => (h _ (mem_adjF.mp hx)).2
/-- the lists of successors while they grow -/
structure Rws (H0 H : Hp) (a : Addr) (n : Nat) (rs : List Addr) (A : Nat → List Nat) : Prop where
  same : Same H0 H
  top : H a = some (.lst (rs.map V.ref))
  len : rs.length = n
  nd : rs.Nodup
  na : a ∉ rs
  at_ : ∀ (i : Nat) r, rs[i]? = some r → H r = some (.lst (vN (A i)))
  new : ∀ r ∈ rs, H0 r = none
theorem Rws.row {H0 H : Hp} {a : Addr} {n : Nat} {rs : List Addr} {A : Nat → List Nat} (R : Rws H0 H a n rs A) {i : Nat} (hi : i < n) : ∃ r, rs[i]? = some r ∧ H r = some (.lst (vN (A i))) :=
  ⟨rs[i]'(by rw [R.len]; exact hi), List.getElem?_eq_getElem _, R.at_ i _ (List.getElem?_eq_getElem _)⟩
theorem Rws.alloc {H0 H H1 : Hp} {a : Addr} {n : Nat} {rs : List Addr} {A : Nat → List Nat} (R : Rws H0 H a n rs A) (e : Same H H1) : Rws H0 H1 a n rs A :=
  ⟨R.same.trans e, e _ _ R.top, R.len, R.nd, R.na, fun i r h => e _ _ (R.at_ i r h), R.new⟩
theorem Rws.app {H0 H H1 : Hp} {a : Addr} {n : Nat} {rs : List Addr} {ps : List (Nat × Nat)} {p : Nat × Nat} {r : Addr} (R : Rws H0 H a n rs (adjF ps)) (hr : rs[p.1]? = some r) (b : But r H H1) (h : H1 r = some (.lst (vN (adjF ps p.1) ++ [.int (p.2 : Nat)]))) : Rws H0 H1 a n rs (adjF (ps ++ [p])) := by
  refine ⟨K11.Same.but R.same b (R.new r (List.mem_of_getElem? hr)), b.get (fun e => R.na (by rw [e]; exact List.mem_of_getElem? hr)) R.top, R.len, R.nd, R.na, fun i q hq => ?_, R.new⟩
  rw [adjF_snoc]
  by_cases e : p.1 = i
  · subst e
    rw [hr] at hq
    cases hq
    rw [if_pos rfl, h]
    unfold vN
    rw [List.map_append]
    rfl
  · rw [if_neg e]
    refine b.get (fun z => e ?_) (R.at_ i q hq)
    subst z
    exact nd_at R.nd hr hq
abbrev kS : Str := "_size"
abbrev kU : Str := "_up"
abbrev kD : Str := "_down"
abbrev kP : Str := "_pairs"
def fs4 (n : Nat) (u dn pr : Addr) : List (Str × V) := [(kS, .int n), (kU, .ref u), (kD, .ref dn), (kP, .ref pr)]
theorem put1 (v : V) : putF kS v [] = [(kS, v)] := rfl
theorem put2 (x v : V) : putF kU v [(kS, x)] = [(kS, x), (kU, v)] := by
  show (if kS = kU then [(kS, v)] else (kS, x) :: putF kU v []) = _
  rw [if_neg (by decide)]; rfl
theorem put3 (x y v : V) : putF kD v [(kS, x), (kU, y)] = [(kS, x), (kU, y), (kD, v)] := by
  show (if kS = kD then [(kS, v), (kU, y)] else (kS, x) :: (if kU = kD then [(kU, v)] else (kU, y) :: putF kD v [])) = _
  rw [if_neg (by decide), if_neg (by decide)]; rfl
theorem put4 (x y z v : V) : putF kP v [(kS, x), (kU, y), (kD, z)] = [(kS, x), (kU, y), (kD, z), (kP, v)] := by
  show (if kS = kP then [(kS, v), (kU, y), (kD, z)] else (kS, x) :: (if kU = kP then [(kU, v), (kD, z)] else (kU, y) :: (if kD = kP then [(kD, v)] else (kD, z) :: putF kP v []))) = _
  rw [if_neg (by decide), if_neg (by decide), if_neg (by decide)]; rfl
theorem look4 (n : Nat) (u dn pr : Addr) : (fs4 n u dn pr).lookup kS = some (.int n) ∧ (fs4 n u dn pr).lookup kU = some (.ref u) ∧ (fs4 n u dn pr).lookup kD = some (.ref dn) ∧ (fs4 n u dn pr).lookup kP = some (.ref pr) ∧ (fs4 n u dn pr).lookup ("above" : Str) = none ∧ (fs4 n u dn pr).lookup ("upper_covers" : Str) = none := ⟨rfl, rfl, rfl, rfl, rfl, rfl⟩
/-- what makes an instance, as it stands behind the top -/
def TK (K : PySem.W.Frag) (mg : Str → Option Value) (C : Addr) (x qual : Str) (st : Stmt) : Prop := ∃ f fd, FunD K "__init__" qual (defArgs st) (defBody st) (defScope st) [] [] f fd ∧ Mk K C f ∧ mg x = some (.ref C)
theorem dk_mk {P : Program} {w : World} {K : PySem.W.Frag} {mg : Str → Option Value} {base : Heap} {C : Addr} {x qual : Str} {st : Stmt} {N ps : List Str} {k : Nat} {sp : Sp} (T : TK K mg C x qual st) (S : FnScope N ps (defScope st))
    (bi : ∀ (kV doc pm : Value) (an : Option Addr) (cdv ct : Value) (us : List Value), us.length = ps.length → bindArgs (PySem.W.fnOf "__init__" qual (defArgs st) (defBody st) (defScope st) .none kV doc pm an cdv ct) ⟨us, []⟩ = pure (ps.zip us))
    (len : ∀ vs H Q E, sp vs H Q E → vs.length = ps.length)
    (hb : ∀ (f : Addr) (cdv : Value) (A : Around) (outer : List Env) (s : Shared) (H : Hp) (vs : List V) (Q : VK) (E : XK), Room k (A.deeper (envOfC qual (defScope st) s.heap.objs.size f cdv)) → sp vs H Q E →
      ∃ t, PSs (cxOf CX0 P w K mg base N qual (defScope st) f cdv A outer s H E).nox (defBody st) t ∧ t { nx := fun _ H' => Q .non H', rt := Q } (start N vs) H) : Dk P w K mg base (k + 1) x C sp := by
  obtain ⟨f, fd, F, hm, hg⟩ := T
  refine ⟨f, fd, ps, F.ok S len fun cdv A outer s H vs Q E hr hs => ?_, hm, F.bindsN bi, hg⟩
  obtain ⟨t, ht, q⟩ := hb f cdv A outer s H vs Q E hr hs
  exact ⟨t, PSs.nox ht, q⟩
section
variable {P : Program} {w : World} {K : PySem.W.Frag} {mg : Str → Option Value} {base : Heap} {C : Addr}
abbrev s_Order__init : Stmt := inClass (topS 14) 0
abbrev N_Order__init : List Str := ["self", "size", "pairs", "direct", "index", "low", "high", "ring", "element"]
theorem sc_Order__init : FnScope N_Order__init ["self", "size", "pairs"] (defScope s_Order__init) := ⟨rfl, rfl, rfl, by decide +kernel, rfl, by decide +kernel, by decide +kernel⟩
def spInit (C : Addr) (K : PySem.W.Frag) : Sp := fun vs H Q _ => ∃ (o a dx : Addr) (n : Nat) (ps : List (Nat × Nat)), vs = [.ref o, .int n, .ref a] ∧ H o = some (.ins C dx []) ∧ Dp K H (.ref a) (.list (psL ps)) ∧ n ≤ 30 ∧ ps.length ≤ 2000 ∧ Acy n ps ∧ ∀ H', SameX o H H' → OrdAt H' o C n (upM n ps) → Q .non H'
theorem d_init (T : Blt mg) (hM : ∃ t, mg "MOST" = some (.int 40 t)) (O : OC K C) (t : TK K mg C "Order" "Order.__init__" s_Order__init) (d_found_ring : Df P w K mg base 1 "found_ring" spRing) (d_closed_masks : Df P w K mg base 2 "closed_masks" (spClosedM K)) (d_elements_of : Df P w K mg base 1 "elements_of" (spElems K)) :
    Dk P w K mg base 3 "Order" C (spInit C K) := by
  refine dk_mk t sc_Order__init (fun _ _ _ _ _ _ us hl => match us, hl with | [_, _, _], _ => rfl) (fun vs H Q E h => ?_) (fun f cdv A outer s₀ H vs Q E hr h => ?_)
  · obtain ⟨o, a, dx, n, ps, rfl, _⟩ := h; rfl
  obtain ⟨o, a, dx, n, ps, rfl, ho, hX, hn, hps, ⟨hb, ρ, hρ⟩, q⟩ := h
  refine ⟨_, pss_cons (ps_if (pt_not (pt_chain op_le op_le (pe_int) (pv 1) (pe_glob (v := .int 40) rfl hM.choose_spec ⟨_, rfl⟩)))
      (pss_one (ps_never))
      (pss_nil))
      (pss_cons (ps_setLc (i := 3) (own := [("element", 8)]) (g := gName 8) rfl sc_Order__init.nd rfl rfl (sw_true rfl rfl rfl (by decide +kernel)) (pi_range1 rfl T.b_range (pa_cons (pv 1) pa_nil)) (blkOk_by (own := [("element", 8)]) (N := N_Order__init) (sc := defScope s_Order__init) (by decide +kernel)) (fun _ _ _ _ _ => pg_name (i := 8) sc_Order__init.nd rfl (by first | exact .inl rfl | exact .inr rfl)) (fun _ _ _ _ _ => pts_nil) (fun _ _ _ _ _ => pe_lst pa_nil))
      (pss_cons (ps_for PassesOwn.never rfl (pi_enum rfl T.b_enumerate (pa_cons (pv 2) pa_nil)) (pg_tup rfl (pgs_cons (pg_name (i := 4) sc_Order__init.nd rfl (.inl rfl)) (pgs_cons (pg_tup rfl (pgs_cons (pg_name (i := 5) sc_Order__init.nd rfl (.inl rfl)) (pgs_cons (pg_name (i := 6) sc_Order__init.nd rfl (.inl rfl)) pgs_nil))) pgs_nil)))
      (pss_cons (ps_if (PW.pt (pw_or (pt_not (pt_chain op_le op_lt (pe_int) (pv 5) (pv 1))) (pw_or1 (pt_not (pt_chain op_le op_lt (pe_int) (pv 6) (pv 1))))))
      (pss_one (ps_never))
      (pss_nil))
      (pss_one (ps_expr (pe_bm PySem.F.plainAttrs_list PySem.F.slot_list_append PySem.F.type_list_append mt_append (pe_ix (ixK (K := K) rfl) (pv 3) (pv 5) (fun _ _ => rfl)) (pa_cons (pv 6) pa_nil))))))
      (pss_cons (ps_set (i := 7) sc_Order__init.nd rfl (.inl rfl) (pe_df d_found_ring hr (by decide) rfl (pa_cons (pv 3) pa_nil)))
      (pss_cons (ps_if (pt_cmpR op_notN (pv 7) (pe_non) (nomark _))
      (pss_one (ps_never))
      (pss_nil))
      (pss_cons (ps_fld (pv 0) (pv 1) rfl)
      (pss_cons (ps_fld (pv 0) (pe_df d_closed_masks hr (by decide) rfl (pa_cons (pv 3) pa_nil)) rfl)
      (pss_cons (ps_fld (pv 0) (pe_op op_rep (pe_lst (pa_cons (pe_int) pa_nil)) (pv 1)) rfl)
      (pss_cons (ps_fld (pv 0) (pe_lst pa_nil) rfl)
      (pss_one (ps_for PassesOwn.never rfl (pi_range1 rfl T.b_range (pa_cons (pv 1) pa_nil)) (pg_name (i := 5) sc_Order__init.nd rfl (.inl rfl))
      (pss_one (ps_for PassesOwn.never rfl (pi_list (pe_df d_elements_of hr (by decide) rfl (pa_cons (pe_ix (ixK (K := K) rfl) (pe_fld (pv 0) rfl) (pv 5) (fun _ _ => rfl)) pa_nil))) (pg_name (i := 6) sc_Order__init.nd rfl (.inl rfl))
      (pss_cons (ps_asg (pe_op op_orN (pe_ix (ixK (K := K) rfl) (pe_fld (pv 0) rfl) (pv 6) (fun _ _ => rfl)) (pe_op op_oneShl (pe_int) (pv 5))) (pg_sub (pe_fld (pv 0) rfl) (pv 6) set_list))
      (pss_one (ps_expr (pe_bm PySem.F.plainAttrs_list PySem.F.slot_list_append PySem.F.type_list_append mt_append (pe_fld (pv 0) rfl) (pa_cons (pe_tup (pa_cons (pv 5) (pa_cons (pv 6) pa_nil))) pa_nil))))))))))))))))), ?_⟩
  obtain ⟨xs, hx, hl, hat⟩ := psL_at hX
  refine ⟨_, rfl, _, _, rfl, rfl, _, rfl, ite2 (fun _ => ⟨_, _, rfl, rfl, _, rfl, ite2 (fun c => ?_) (fun _ => ?_)⟩) (fun c => absurd (decide_eq_true (by omega)) c)⟩
  · have e : decide ((n : Int) ≤ 40) = true := decide_eq_true (by omega)
    rw [e] at c
    cases c
  -- direct = [[] for element in range(size)]
  refine ⟨_, rfl, _, rfl, by omega, by omega, fun d nd => ?_⟩
  rw [Int.toNat_natCast]
  refine lc_range (lo := 0) (n := n) (fun i H3 => ∃ rs, Rws H H3 d i rs (adjF [])) ⟨[], same_up nd, upd_same, rfl, List.nodup_nil, by simp, fun i r h => by simp at h, fun r h => by cases h⟩ (fun i H3 hi ⟨rs, R⟩ => ?_) (fun H1 ⟨rs, R⟩ => ?_)
  · refine ⟨rfl, Nat.zero_le _, fun v nv => ?_⟩
    ktr_call (H4 e4 h4) nv
    have R4 := R.alloc e4
    have nvd : v ≠ d := (ne_of_none R.top nv).symm
    have nvr : ∀ r ∈ rs, r ≠ v := fun r hr => by
      obtain ⟨j, hj, rfl⟩ := List.getElem_of_mem hr
      exact ne_of_none (R.at_ j _ (List.getElem?_eq_getElem hj)) nv
    have lr := R.len
    refine ⟨_, R4.top, szl (by rw [List.length_map]; omega), rs ++ [v], K11.Same.mut R4.same nd, by rw [upd_same, List.map_append]; rfl, by rw [List.length_append, lr]; rfl, ?_, ?_, fun j r h => ?_, fun r h => ?_⟩
    · exact List.nodup_append.mpr ⟨R.nd, by simp, fun r hr z hz => by
        rw [List.mem_singleton] at hz
        rw [hz]
        exact nvr r hr⟩
    · intro h
      rcases List.mem_append.mp h with h | h
      · exact R.na h
      · exact nvd (List.mem_singleton.mp h).symm
    · by_cases hj : j < rs.length
      · rw [List.getElem?_append_left hj] at h
        rw [upd_ne (fun e => R.na (by rw [← e]; exact List.mem_of_getElem? h))]
        exact R4.at_ j r h
      · rw [List.getElem?_append_right (by omega)] at h
        cases hk : j - rs.length with
        | zero =>
          rw [hk] at h
          simp at h
          subst h
          rw [upd_ne nvd]
          exact h4
        | succ k => rw [hk] at h; simp at h
    · rcases List.mem_append.mp h with h | h
      · exact R.new r h
      · rw [List.mem_singleton] at h
        rw [h]
        exact R.same.free nv
  -- the pairs
  refine ⟨_, rfl, a, xs, rfl, R.same.seq hx, for_it (walk_enum (K := K) (a := a) (xs := xs)) (fun i σ H3 => ∃ v4 v5 v6, σ = [some (.ref o), some (.int (n : Nat)), some (.ref a), some (.ref d), v4, v5, v6, none, none] ∧ Rws H H3 d n rs (adjF (ps.take i))) ⟨none, none, none, rfl, R⟩ (fun i σ H3 _ ⟨_, _, _, _, R3⟩ => R3.same.seq hx) (fun i v σ H3 H4 hi hP hY => ?_) (fun σ H3 hP => ?_)⟩
  · obtain ⟨v4, v5, v6, rfl, R3⟩ := hP
    obtain ⟨tt, x1, y1, rfl, ntt, rfl, hx1, hy1⟩ := hY
    cases hx1
    ktr_call (H5 e5 h5) ntt
    have hi' : i < ps.length := by omega
    obtain ⟨pt, e1, hpt⟩ := hat i ps[i] (List.getElem?_eq_getElem hi')
    have hy1 : xs[i]? = some y1 := hy1
    rw [hy1] at e1
    cases e1
    have R5 := R3.alloc e5
    obtain ⟨b1, b2⟩ := hb ps[i] (List.getElem_mem hi')
    obtain ⟨r, hr1, hr2⟩ := R5.row b1
    have la := adjF_len (ps.take i) ps[i].1
    have lt : (ps.take i).length ≤ ps.length := by rw [List.length_take]; omega
    refine ⟨tt, _, rfl, SqT.of h5, rfl, _, _, rfl, _, _, rfl, pt, _, rfl, K11.Same.sqt R5.same hpt, rfl, _, _, rfl, _, _, rfl, rfl, rfl, ?_⟩
    refine ⟨_, rfl, _, _, rfl, rfl, _, rfl, ite2 (fun _ => ⟨_, rfl, _, _, rfl, rfl, _, rfl, ite2 (fun c => ?_) (fun _ => ?_)⟩) (fun c => absurd (decide_eq_true (by omega)) c)⟩
    · have e : decide (((ps[i].1 : Nat) : Int) < (n : Nat)) = true := decide_eq_true (by omega)
      rw [e] at c
      cases c
    refine ⟨_, rfl, _, _, rfl, rfl, _, rfl, ite2 (fun _ => ⟨_, rfl, _, _, rfl, rfl, _, rfl, ite2 (fun c => ?_) (fun _ => ?_)⟩) (fun c => absurd (decide_eq_true (by omega)) c)⟩
    · have e : decide (((ps[i].2 : Nat) : Int) < (n : Nat)) = true := decide_eq_true (by omega)
      rw [e] at c
      cases c
    refine ⟨_, rfl, _, rfl, .inl ⟨d, _, (ps[i].1 : Nat), .ref r, rfl, rfl, SqL.of R5.top, atn (by rw [List.getElem?_map, hr1]; rfl), .inl ⟨rfl, _, SqL.of hr2⟩, _, rfl, r, _, .int (ps[i].2 : Nat), rfl, rfl, hr2, szl (by rw [vN_len]; omega), ?_⟩⟩
    tbr_iter (H6 b6 h6)
    refine ⟨_, _, _, rfl, ?_⟩
    rw [List.take_add_one, List.getElem?_eq_getElem hi', Option.toList_some]
    exact R5.app hr1 b6 h6
  obtain ⟨v4, v5, v6, rfl, R3⟩ := hP
  rw [hl, List.take_length] at R3
  clear R
  -- no ring
  have AD : Adj H3 d n ρ rs (adjs n ps) := ⟨R3.top, R3.len, adjs_len n ps, fun i r h => by
    have hi : i < n := by have := (List.getElem?_eq_some_iff.mp h).1; rw [R3.len] at this; exact this
    rw [adjs_at n ps hi]
    exact R3.at_ i r h, fun i hi x hx => by
    rw [adjs_at n ps hi] at hx
    have := mem_adjF.mp hx
    exact ⟨(hb _ this).2, hρ _ this⟩⟩
  have hns := nsum_le 2000 (List.replicate n "new") (adjs n ps) (fun r hr => by
    unfold adjs at hr
    obtain ⟨i, _, rfl⟩ := List.mem_map.mp hr
    exact Nat.le_trans (adjF_len ps i) hps)
  rw [adjs_len] at hns
  refine ⟨_, rfl, d, n, ρ, rs, adjs n ps, rfl, AD, by omega, by omega, fun H4 s4 => ?_⟩
  refine ⟨_, rfl, rfl, _, rfl, ite2 (fun c => by cases c) (fun _ => ?_)⟩
  have s04 := R3.same.trans s4
  have ho4 := s04 _ _ ho
  -- self._size
  refine ⟨_, rfl, _, rfl, o, C, dx, [], rfl, ho4, O.cls, O.nS, by show 0 < 1000; decide, ?_⟩
  tbr_iter (H5 b5 h5)
  rw [put1] at h5
  have x5 : SameX o H H5 := (SameX.of s04).own b5
  -- self._up
  have nrs : ∀ r ∈ rs, r ≠ o := fun r hr e => by have := R3.new r hr; rw [e, ho] at this; cases this
  have nd0 : d ≠ o := fun e => by rw [e, ho] at nd; cases nd
  have dD : Dp K H5 (.ref d) (.list (adjL (adjs n ps))) := by
    refine .lst (SqL.of (b5.get nd0 (s4 _ _ R3.top))) (dpa_of (by rw [List.length_map, adjL_len, adjs_len, R3.len]) fun i v e hv he => ?_)
    have hi : i < n := by have := (List.getElem?_eq_some_iff.mp hv).1; rw [List.length_map, R3.len] at this; exact this
    obtain ⟨r, hr1, hr2⟩ := R3.row hi
    rw [List.getElem?_map, hr1] at hv
    cases hv
    rw [adjL_at (by rw [adjs_len]; exact hi)] at he
    cases he
    have e : (adjs n ps)[i]'(by rw [adjs_len]; exact hi) = adjF ps i := by unfold adjs; simp
    rw [e]
    exact .lst (SqL.of (b5.get (nrs r (List.mem_of_getElem? hr1)) (s4 _ _ hr2))) (dpa_isL _)
  refine ⟨_, rfl, d, adjs n ps, rfl, dD, by rw [adjs_len]; omega, fun r hr x hx => ?_, fun u H6 nu s6 hu => ?_⟩
  · unfold adjs at hr
    obtain ⟨i, _, rfl⟩ := List.mem_map.mp hr
    have := (hb _ (mem_adjF.mp hx)).2
    show x ≤ 1000
    have : x < n := this
    omega
  rw [adjs_len] at hu
  have hu : H6 u = some (.lst (vN (upM n ps))) := hu
  have x6 := x5.same s6
  have uo : u ≠ o := fun e => by rw [e, h5] at nu; cases nu
  have fu := x5.free uo nu
  refine ⟨_, rfl, o, C, dx, _, rfl, s6 _ _ h5, O.cls, O.nU, by show 1 < 1000; decide, ?_⟩
  tbr_iter (H7 b7 h7)
  rw [put2] at h7
  have x7 := x6.own b7
  have hu7 := b7.get uo hu
  -- self._down
  refine ⟨sz (by show 1 ≤ 1000000; decide), fun z nz => ?_⟩
  ktr_call (H8 e8 h8) nz
  refine ⟨_, rfl, z, (n : Int), [.int 0], rfl, rfl, h8, by omega, by omega, sz (by rw [Int.toNat_natCast, List.length_singleton]; omega), fun dn ndn => ?_⟩
  rw [Int.toNat_natCast, rep_flat]
  ktr_call (H9 e9 h9) ndn
  have e89 := e8.trans e9
  have x9 := x7.same e89
  have ho9 := e89 _ _ h7
  have dno : dn ≠ o := fun e => by rw [e, e8 _ _ h7] at ndn; cases ndn
  have dnu : dn ≠ u := (ne_of_none (e8 _ _ hu7) ndn).symm
  have fdn := (x7.same e8).free dno ndn
  have hdn9 : H9 dn = some (.lst (vN (List.replicate n 0))) := by rw [h9]; unfold vN; rw [List.map_replicate]; rfl
  refine ⟨_, rfl, o, C, dx, _, rfl, ho9, O.cls, O.nD, by show 2 < 1000; decide, ?_⟩
  tbr_iter (HA bA hA)
  rw [put3] at hA
  have xA := x9.own bA
  have huA := bA.get uo (e89 _ _ hu7)
  have hdnA := bA.get dno hdn9
  -- self._pairs
  refine ⟨Nat.zero_le _, fun pr npr => ?_⟩
  ktr_call (HB eB hB) npr
  have pro : pr ≠ o := fun e => by rw [e, hA] at npr; cases npr
  have pru : pr ≠ u := (ne_of_none huA npr).symm
  have prd : pr ≠ dn := (ne_of_none hdnA npr).symm
  have xB := xA.same eB
  have fpr := xA.free pro npr
  refine ⟨_, rfl, o, C, dx, _, rfl, eB _ _ hA, O.cls, O.nP, by show 3 < 1000; decide, ?_⟩
  tbr_iter (HC bC hC)
  rw [put4] at hC
  obtain ⟨k1, k2, k3, k4, k5, k6⟩ := look4 n u dn pr
  -- the loops fill what is never read
  have lu := upM_len n ps
  have hlt := upM_lt hb
  refine ⟨_, rfl, for_r1 (n := n) rfl (by omega) (fun i σ HD => ∃ v5 v6 ds acc, σ = [some (.ref o), some (.int (n : Nat)), some (.ref a), some (.ref d), v4, v5, v6, some .non, none] ∧ SameX o H HD ∧ HD o = some (.ins C dx (fs4 n u dn pr)) ∧ HD u = some (.lst (vN (upM n ps))) ∧ HD dn = some (.lst (vN ds)) ∧ ds.length = n ∧ HD pr = some (.lst acc) ∧ acc.length ≤ i * n) ⟨v5, v6, _, [], rfl, xB.own bC, hC, bC.get uo (eB _ _ huA), bC.get dno (eB _ _ hdnA), List.length_replicate .., bC.get pro hB, Nat.zero_le _⟩ (fun i σ HD hi hP => ?_) (fun σ HD hP => ?_)⟩
  · obtain ⟨v5, v6, ds, acc, rfl, xD, hoD, huD, hdD, lds, hpD, lac⟩ := hP
    have lii : i * n ≤ 30 * 30 := Nat.mul_le_mul (by omega) hn
    refine ⟨_, rfl, o, C, dx, _, _, rfl, hoD, O.cls, O.nU, k2, _, rfl, .inl ⟨u, _, i, _, rfl, rfl, SqL.of huD, atn (vN_d (by omega)), (upM n ps).getD i 0, n, rfl, getD_lt hlt, by omega, fun bl HE nbl sE hbl => ?_⟩⟩
    obtain ⟨ys, y1, y2⟩ := hbl
    have y2' := dpa_isL_eq y2
    subst y2'
    generalize hbs : bitsOf n ((upM n ps).getD i 0) = bs at y1
    have bbs : ∀ j ∈ bs, j < n := fun j hj => by rw [← hbs] at hj; exact (mem_bits.mp hj).1
    have lbs : bs.length ≤ n := by rw [← hbs]; exact bits_len n _
    have blo : bl ≠ o := (ne_of_none hoD nbl).symm
    have fbl := xD.free blo nbl
    refine ⟨bl, rfl, ⟨_, SqL.of y1⟩, for_list (K := K) (a := bl) (xs := vN bs) (fun k σ HF => ∃ v6 ds acc, σ = [some (.ref o), some (.int (n : Nat)), some (.ref a), some (.ref d), v4, some (.int (i : Nat)), v6, some .non, none] ∧ SameX o H HF ∧ HF bl = some (.lst (vN bs)) ∧ HF o = some (.ins C dx (fs4 n u dn pr)) ∧ HF u = some (.lst (vN (upM n ps))) ∧ HF dn = some (.lst (vN ds)) ∧ ds.length = n ∧ HF pr = some (.lst acc) ∧ acc.length ≤ i * n + k) ⟨v6, ds, acc, rfl, xD.same sE, y1, sE _ _ hoD, sE _ _ huD, sE _ _ hdD, lds, sE _ _ hpD, lac⟩ (fun k σ HF _ ⟨_, _, _, _, _, h, _⟩ => SqL.of h) (fun k x σ HF hxk hP => ?_) (fun σ HF hP => ?_)⟩
    · obtain ⟨v6, ds, acc, rfl, xF, hbF, hoF, huF, hdF, lds, hpF, lac⟩ := hP
      have hk : k < bs.length := by have := (List.getElem?_eq_some_iff.mp hxk).1; rw [vN_len] at this; exact this
      rw [vN_at hk] at hxk
      cases hxk
      have hj := bbs _ (List.getElem_mem hk)
      have bld : bl ≠ dn := (ne_of_none hdD nbl).symm
      have blp : bl ≠ pr := (ne_of_none hpD nbl).symm
      refine ⟨_, rfl, o, C, dx, _, _, rfl, hoF, O.cls, O.nD, k3, _, rfl, .inl ⟨dn, _, (bs[k] : Nat), _, rfl, rfl, SqL.of hdF, atn (vN_d (by omega)), _, rfl, i, rfl, rfl, by omega, ds.getD bs[k] 0, 2 ^ i, rfl, by rw [← two_pow_cast], ?_⟩⟩
      refine ⟨_, rfl, o, C, dx, _, _, rfl, hoF, O.cls, O.nD, k3, _, rfl, dn, _, (bs[k] : Nat), bs[k], rfl, rfl, hdF, ixn (by rw [vN_len]; omega), ?_⟩
      tbr_iter (HG bG hG)
      rw [vN_set] at hG
      have hoG := bG.get dno.symm hoF
      have hpG := bG.get prd hpF
      refine ⟨_, rfl, o, C, dx, _, _, rfl, hoG, O.cls, O.nP, k4, .inl ⟨rfl, _, SqL.of hpG⟩, _, rfl, _, rfl, sz (by show 2 ≤ 1000000; decide), fun t nt => ?_⟩
      ktr_call (HH eH hH) nt
      refine ⟨pr, acc, .ref t, rfl, rfl, eH _ _ hpG, szl (by omega), ?_⟩
      tbr_iter (HI bI hI)
      refine ⟨some (.int (bs[k] : Nat)), ds.set bs[k] (ds.getD bs[k] 0 ||| 2 ^ i), acc ++ [.ref t], rfl, ((xF.but bG fdn).same eH).but bI fpr, bI.get blp (eH _ _ (bG.get bld hbF)), bI.get pro.symm (eH _ _ hoG), bI.get pru.symm (eH _ _ (bG.get dnu.symm huF)), bI.get prd.symm (eH _ _ hG), by rw [List.length_set]; exact lds, hI, by rw [List.length_append, List.length_singleton]; omega⟩
    · obtain ⟨v6, ds, acc, rfl, xF, hbF, hoF, huF, hdF, lds, hpF, lac⟩ := hP
      rw [vN_len] at lac
      exact ⟨_, v6, ds, acc, rfl, xF, hoF, huF, hdF, lds, hpF, by rw [Nat.succ_mul]; omega⟩
  · obtain ⟨v5, v6, ds, acc, rfl, xD, hoD, huD, _⟩ := hP
    exact q HD xD ⟨dx, _, u, hoD, k1, k2, k5, k6, huD, lu, by omega, hlt⟩
end
end K11
set_option maxHeartbeats 4000000

/-! B21: arc_fault. -/
namespace K11
open PySem PySem.Spec PyProof.Rows L2
def Fault (n : Nat) (U : Nat → List Nat) (i j k l : Nat) : Prop := i < n ∧ j < n ∧ k ∈ U i ∧ k ∈ U j ∧ l ∈ U j ∧ l ∉ U i
def FreeAt (U : Nat → List Nat) (i j : Nat) : Prop := ∀ k, k ∈ U i → k ∈ U j → ∀ l, l ∈ U j → l ∈ U i
def NoFault (n : Nat) (U : Nat → List Nat) : Prop := ∀ i j, i < n → j < n → FreeAt U i j
theorem size_of {C : Addr} {σ : L2.St} {H : Hp} {Q : VK} {o : Addr} {n : Nat} {ms : List Nat} (h0 : σ[0]? = some (some (.ref o))) (hO : OrdAt H o C n ms) (q : Q (.int n) H) : tProp C (getSp C kS) [] E0 (tVar 0) σ H Q := by
  obtain ⟨dx, fs, u, h1, h2, _⟩ := hO
  exact ⟨_, h0, o, dx, fs, rfl, h1, o, dx, fs, _, rfl, h1, h2, q⟩
theorem uc_of {K : PySem.W.Frag} {C : Addr} {σ : L2.St} {H : Hp} {Q : VK} {o : Addr} {n i j : Nat} {ms : List Nat} (h0 : σ[0]? = some (some (.ref o))) (hj : σ[j]? = some (some (.int i))) (hO : OrdAt H o C n ms) (hi : i < n)
    (q : ∀ r H', H r = none → Same H H' → LA K H' r (isL (ucM n ms i)) → Q (.ref r) H') : tMeth C "upper_covers" (spUC C K) [] E0 (tVar 0) (tCons (tVar j) tNil) σ H Q := by
  have hO' := hO
  obtain ⟨dx, fs, u, h1, h2, h3, h4, h5, _⟩ := hO'
  exact ⟨_, h0, o, dx, fs, rfl, h1, h5, _, hj, o, n, i, ms, rfl, hO, hi, q⟩
section
variable {P : Program} {w : World} {K : PySem.W.Frag} {mg : Str → Option Value} {base : Heap} {C : Addr}
abbrev s_arc_fault : Stmt := topS 1
abbrev N_arc_fault : List Str := ["order", "rows", "one", "other", "shared", "further", "element", "high"]
theorem sc_arc_fault : FnScope N_arc_fault ["order"] (defScope s_arc_fault) := ⟨rfl, rfl, rfl, by decide +kernel, rfl, by decide +kernel, by decide +kernel⟩
def spFault (C : Addr) (K : PySem.W.Frag) : Sp := fun vs H Q _ => ∃ (o : Addr) (n : Nat) (ms : List Nat), vs = [.ref o] ∧ OrdAt H o C n ms ∧ ∀ v H', Same H H' → ((v = .non ∧ NoFault n (ucM n ms)) ∨ ∃ t i j k l, v = .ref t ∧ H' t = some (.tup (vN [i, j, k, l])) ∧ Fault n (ucM n ms) i j k l) → Q v H'
theorem d_fault (T : Blt mg) (O : OC K C) (d_size : Dg P w K mg base 1 C "size" kS) (d_upper_covers : Dm P w K mg base 3 C "upper_covers" (spUC C K)) (t : TD K mg "arc_fault" s_arc_fault) : Df P w K mg base 4 "arc_fault" (spFault C K) := by
  refine df_mk t sc_arc_fault (fun _ _ _ _ _ _ us hl => match us, hl with | [_], _ => rfl) (fun vs H Q E h => ?_) (fun f cdv A outer s₀ H vs Q E hr h => ?_)
  · obtain ⟨o, n, ms, rfl, _⟩ := h; rfl
  obtain ⟨o, n, ms, rfl, hO, q⟩ := h
  refine ⟨_, pss_cons (ps_set (i := 1) sc_arc_fault.nd rfl (.inr rfl) (pe_lc (own := [("element", 6)]) (g := gName 6) rfl sc_arc_fault.nd (pi_range1 rfl T.b_range (pa_cons (pe_dg d_size O.cls hr (by decide) (pv 0) rfl) pa_nil)) (blkOk_by (own := [("element", 6)]) (N := N_arc_fault) (sc := defScope s_arc_fault) (by decide +kernel)) (fun _ _ _ _ _ => pg_name (i := 6) sc_arc_fault.nd rfl (by first | exact .inl rfl | exact .inr rfl)) (fun _ _ _ _ _ => pts_nil) (fun _ _ _ _ _ => pe_dm d_upper_covers O.cls hr (by decide) (pv 0) (pa_cons (pv 6) pa_nil))))
      (pss_cons (ps_for PassesOwn.never rfl (pi_range1 rfl T.b_range (pa_cons (pe_dg d_size O.cls hr (by decide) (pv 0) rfl) pa_nil)) (pg_name (i := 2) sc_arc_fault.nd rfl (.inr rfl))
      (pss_one (ps_for PassesOwn.never rfl (pi_range1 rfl T.b_range (pa_cons (pe_dg d_size O.cls hr (by decide) (pv 0) rfl) pa_nil)) (pg_name (i := 3) sc_arc_fault.nd rfl (.inr rfl))
      (pss_cons (ps_setLc (i := 4) (own := [("high", 7)]) (g := gName 7) rfl sc_arc_fault.nd rfl rfl (sw_true rfl rfl rfl (by decide +kernel)) (pi_list (pe_ix (ixK (K := K) rfl) (pv 1) (pv 2) (fun _ _ => rfl))) (blkOk_by (own := [("high", 7)]) (N := N_arc_fault) (sc := defScope s_arc_fault) (by decide +kernel)) (fun _ _ _ _ _ => pg_name (i := 7) sc_arc_fault.nd rfl (by first | exact .inl rfl | exact .inr rfl)) (fun _ _ _ _ _ => pts_one (pt_cmpR (inK (K := K) rfl) (pv 7) (pe_ix (ixK (K := K) rfl) (pv 1) (pv 3) (fun _ _ => rfl)) rfl)) (fun _ _ _ _ _ => pv 7))
      (pss_cons (ps_setLc (i := 5) (own := [("high", 7)]) (g := gName 7) rfl sc_arc_fault.nd rfl rfl (sw_true rfl rfl rfl (by decide +kernel)) (pi_list (pe_ix (ixK (K := K) rfl) (pv 1) (pv 3) (fun _ _ => rfl))) (blkOk_by (own := [("high", 7)]) (N := N_arc_fault) (sc := defScope s_arc_fault) (by decide +kernel)) (fun _ _ _ _ _ => pg_name (i := 7) sc_arc_fault.nd rfl (by first | exact .inl rfl | exact .inr rfl)) (fun _ _ _ _ _ => pts_one (pt_cmpR (ninK (K := K) rfl) (pv 7) (pe_ix (ixK (K := K) rfl) (pv 1) (pv 2) (fun _ _ => rfl)) rfl)) (fun _ _ _ _ _ => pv 7))
      (pss_one (ps_if (PW.pt (pw_and (pt_cmpR op_gt (pe_callB (lenK (K := K) rfl) rfl T.b_len (by decide +kernel) (pa_cons (pv 4) pa_nil)) (pe_int) (nomark _)) (pw_and1 (pt_cmpR op_gt (pe_callB (lenK (K := K) rfl) rfl T.b_len (by decide +kernel) (pa_cons (pv 5) pa_nil)) (pe_int) (nomark _)))))
      (pss_one (ps_ret (pe_tup (pa_cons (pv 2) (pa_cons (pv 3) (pa_cons (pe_ix (ixK (K := K) rfl) (pv 4) (pe_int) (fun _ _ => rfl)) (pa_cons (pe_ix (ixK (K := K) rfl) (pv 5) (pe_int) (fun _ _ => rfl)) pa_nil)))))))
      (pss_nil))))))))
      (pss_one (ps_ret (pe_non)))), ?_⟩
  have n100 : n ≤ 100 := by obtain ⟨_, _, _, _, _, _, _, _, _, _, h, _⟩ := hO; exact h
  have hlen : ∀ i, (ucM n ms i).length ≤ n := fun i => bits_len n _
  generalize hU : ucM n ms = U at q hlen
  refine size_of rfl hO ?_
  refine ⟨_, rfl, by omega, by omega, fun R nR => ?_⟩
  rw [Int.toNat_natCast]
  refine lc_range (lo := 0) (n := n) (fun i H3 => ∃ rs, Same H H3 ∧ Parts H3 R R rs ((List.range i).map U)) ⟨[], same_up nR, upd_same, rfl, fun i r pt h => by simp at h⟩ (fun i H3 hi ⟨rs, s3, PR⟩ => ?_) (fun H1 ⟨rs, s1, PR⟩ => ?_)
  · rw [Int.zero_add]
    refine ⟨rfl, ?_⟩
    refine uc_of (K := K) (i := i) rfl rfl (hO.same s3) hi fun r H5 nr s5 hr5 => ?_
    rw [hU] at hr5
    obtain ⟨ys, h1, h2⟩ := hr5
    rw [dpa_isL_eq h2] at h1
    have R5 := PR.same s5
    have lr := R5.len
    rw [List.length_map, List.length_range] at lr
    have nrS : r ≠ R := (ne_of_none PR.top nr).symm
    refine ⟨_, R5.top, szl (by rw [List.length_map]; omega), rs ++ [r], K11.Same.mut (s3.trans s5) nR, ?_⟩
    rw [List.range_succ, List.map_append]
    exact R5.app h1 nrS nrS but_up upd_same
  have lrs : rs.length = n := by rw [PR.len, List.length_map, List.length_range]
  have item : ∀ i, i < n → ∃ r, (rs.map V.ref)[i]? = some (.ref r) ∧ H1 r = some (.lst (vN (U i))) := fun i hi => by
    have h1 : rs[i]? = some rs[i] := List.getElem?_eq_getElem (by omega)
    refine ⟨rs[i], by rw [List.getElem?_map, h1]; rfl, (PR.at_ i rs[i] (U i) h1 ?_).1⟩
    rw [List.getElem?_map, List.getElem?_range hi]
    rfl
  have hx := PR.top
  generalize rs.map V.ref = xs at hx item
  have hO1 := hO.same s1
  refine size_of rfl hO1 ?_
  refine for_r1 (n := n) rfl (by omega) (fun a σ H3 => ∃ v2 v3 v4 v5, σ = [some (.ref o), some (.ref R), v2, v3, v4, v5, none, none] ∧ Same H1 H3 ∧ ∀ i j, i < a → j < n → FreeAt U i j) ⟨none, none, none, none, rfl, .refl _, fun i j h => absurd h (Nat.not_lt_zero _)⟩ (fun a σ H3 ha hP => ?_) (fun σ H3 hP => ?_)
  · obtain ⟨v2, v3, v4, v5, rfl, s3, no1⟩ := hP
    refine size_of rfl (hO1.same s3) ?_
    refine for_r1 (n := n) rfl (by omega) (fun b σ H4 => ∃ v3 v4 v5, σ = [some (.ref o), some (.ref R), some (.int (a : Nat)), v3, v4, v5, none, none] ∧ Same H1 H4 ∧ ∀ j, j < b → FreeAt U a j) ⟨v3, v4, v5, rfl, s3, fun j h => absurd h (Nat.not_lt_zero _)⟩ (fun b σ H4 hb hP => ?_) (fun σ H4 hP => ?_)
    · obtain ⟨v3, v4, v5, rfl, s4, no2⟩ := hP
      obtain ⟨ra, ra1, ra2⟩ := item a ha
      obtain ⟨rb, rb1, rb2⟩ := item b hb
      have hx4 := SqL.of (K := K) (s4 _ _ hx)
      -- shared
      refine ⟨_, rfl, _, rfl, .inl ⟨R, xs, a, .ref ra, rfl, rfl, hx4, atn ra1, ?_⟩⟩
      refine lc_ld (K := K) (ds := isL (U a)) (by rw [vN_len]; have := hlen a; omega) (SqL.of (s4 _ _ ra2)) (dpa_isL _) (fun d => decide (toN d ∈ U b)) (fun d => iD (toN d)) (fun x => [some (.ref o), some (.ref R), some (.int (a : Nat)), some (.int (b : Nat)), v4, v5, none, some x]) (fun x H R h => h) (fun x => rfl) (fun x d H5 R' hd hxd s5 hR => ?_) (fun x d H5 R' hd hxd _ s5 hR => ?_) (fun S H5 nS s5 hS => ?_)
      · obtain ⟨z, hz, rfl⟩ := List.mem_map.mp hd
        cases dp_int hxd
        refine ⟨_, rfl, _, rfl, _, rfl, .inl ⟨R, xs, b, .ref rb, rfl, rfl, s5.seq hx4, atn rb1, rb, _, rfl, .inl (SqL.of (s5 _ _ (s4 _ _ rb2))), rfl, flat_vN _, _, rfl, ?_⟩⟩
        show R' (inV (.int (z : Nat)) (vN (U b))) H5
        rw [inV_vN]
        exact hR H5 (.refl _)
      · obtain ⟨z, hz, rfl⟩ := List.mem_map.mp hd
        cases dp_int hxd
        exact ⟨_, rfl, hR _ H5 (.refl _) (.int _) (.inl rfl)⟩
      have eS : ((isL (U a)).filter fun d => decide (toN d ∈ U b)).map (fun d => iD (toN d)) = isL ((U a).filter fun z => decide (z ∈ U b)) := by
        unfold isL
        rw [List.filter_map, List.map_map]
        rfl
      rw [eS] at hS
      obtain ⟨ss, hs1, hs2⟩ := hS
      have hs2' := dpa_isL_eq hs2
      subst hs2'
      generalize hsh : (U a).filter (fun z => decide (z ∈ U b)) = sh at hs1
      have msh : ∀ z, z ∈ sh ↔ z ∈ U a ∧ z ∈ U b := fun z => by rw [← hsh, List.mem_filter]; simp
      have s45 := s4.trans s5
      -- further
      refine ⟨_, rfl, _, rfl, .inl ⟨R, xs, b, .ref rb, rfl, rfl, s5.seq hx4, atn rb1, ?_⟩⟩
      refine lc_ld (K := K) (ds := isL (U b)) (by rw [vN_len]; have := hlen b; omega) (SqL.of (s45 _ _ rb2)) (dpa_isL _) (fun d => !decide (toN d ∈ U a)) (fun d => iD (toN d)) (fun x => [some (.ref o), some (.ref R), some (.int (a : Nat)), some (.int (b : Nat)), some (.ref S), v5, none, some x]) (fun x H R h => h) (fun x => rfl) (fun x d H6 R' hd hxd s6 hR => ?_) (fun x d H6 R' hd hxd _ s6 hR => ?_) (fun F H6 nF s6 hF => ?_)
      · obtain ⟨z, hz, rfl⟩ := List.mem_map.mp hd
        cases dp_int hxd
        refine ⟨_, rfl, _, rfl, _, rfl, .inl ⟨R, xs, a, .ref ra, rfl, rfl, s6.seq (s5.seq hx4), atn ra1, ra, _, rfl, .inl (SqL.of (s6 _ _ (s45 _ _ ra2))), rfl, flat_vN _, _, rfl, ?_⟩⟩
        show R' (!inV (.int (z : Nat)) (vN (U a))) H6
        rw [inV_vN]
        exact hR H6 (.refl _)
      · obtain ⟨z, hz, rfl⟩ := List.mem_map.mp hd
        cases dp_int hxd
        exact ⟨_, rfl, hR _ H6 (.refl _) (.int _) (.inl rfl)⟩
      have eF : ((isL (U b)).filter fun d => !decide (toN d ∈ U a)).map (fun d => iD (toN d)) = isL ((U b).filter fun z => !decide (z ∈ U a)) := by
        unfold isL
        rw [List.filter_map, List.map_map]
        rfl
      rw [eF] at hF
      obtain ⟨fs_, hf1, hf2⟩ := hF
      have hf2' := dpa_isL_eq hf2
      subst hf2'
      generalize hfu : (U b).filter (fun z => !decide (z ∈ U a)) = fu at hf1
      have mfu : ∀ z, z ∈ fu ↔ z ∈ U b ∧ z ∉ U a := fun z => by rw [← hfu, List.mem_filter]; simp
      have s46 := s45.trans s6
      have hs16 := s6 _ _ hs1
      have again : ∀ {D : Ends} {v5 : Option V}, D.nx = (fun σ H4 => ∃ v3 v4 v5, σ = [some (.ref o), some (.ref R), some (.int (a : Nat)), v3, v4, v5, none, none] ∧ Same H1 H4 ∧ ∀ j, j < b + 1 → FreeAt U a j) → (sh = [] ∨ fu = []) → D.nx [some (.ref o), some (.ref R), some (.int (a : Nat)), some (.int (b : Nat)), some (.ref S), v5, none, none] H6 := fun eD h => by
        rw [eD]
        refine ⟨_, _, _, rfl, s46, fun j hj => ?_⟩
        by_cases e : j = b
        · subst e
          intro k h1 h2 l h3
          rcases h with h | h
          · have := (msh k).mpr ⟨h1, h2⟩
            rw [h] at this
            cases this
          · by_cases m : l ∈ U a
            · exact m
            · have := (mfu l).mpr ⟨h3, m⟩
              rw [h] at this
              cases this
        · exact no2 j (by omega)
      refine ⟨_, rfl, S, _, rfl, .inl (SqL.of hs16), _, _, rfl, rfl, _, rfl, ite2 (fun c => ?_) (fun c => ?_)⟩
      · have c := of_decide_eq_true c
        refine ⟨_, rfl, F, _, rfl, .inl (SqL.of hf1), _, _, rfl, rfl, _, rfl, ite2 (fun c2 => ?_) (fun c2 => ?_)⟩
        · have c2 := of_decide_eq_true c2
          cases sh with
          | nil => exact absurd c (by decide)
          | cons z sh =>
            cases fu with
            | nil => exact absurd c2 (by decide)
            | cons y fu =>
              obtain ⟨z1, z2⟩ := (msh z).mp List.mem_cons_self
              obtain ⟨y1, y2⟩ := (mfu y).mp List.mem_cons_self
              refine ⟨_, rfl, _, rfl, _, rfl, .inl ⟨S, _, (0 : Nat), _, rfl, rfl, SqL.of hs16, atn (i := 0) rfl, _, rfl, .inl ⟨F, _, (0 : Nat), _, rfl, rfl, SqL.of hf1, atn (i := 0) rfl, sz (by show 4 ≤ 1000000; decide), fun t nt => ?_⟩⟩⟩
              ktr_call (H7 e7 h7) nt
              exact q _ H7 ((s1.trans s46).trans e7) (.inr ⟨t, a, b, z, y, rfl, h7, ha, hb, z1, z2, y1, y2⟩)
        · refine again (by exact rfl) (.inr ?_)
          cases fu with
          | nil => rfl
          | cons y fu => exact absurd (decide_eq_true (by simp)) c2
      · refine ite2 (fun c2 => by cases c2) (fun _ => again (by exact rfl) (.inl ?_))
        cases sh with
        | nil => rfl
        | cons y sh => exact absurd (decide_eq_true (by simp)) c
    · obtain ⟨v3, v4, v5, rfl, s4, no2⟩ := hP
      refine ⟨_, _, _, _, rfl, s4, fun i j h1 hj => ?_⟩
      by_cases e : i = a
      · subst e; exact no2 j hj
      · exact no1 i j (by omega) hj
  · obtain ⟨v2, v3, v4, v5, rfl, s3, no1⟩ := hP
    exact q .non H3 (s1.trans s3) (.inl ⟨rfl, fun i j hi hj => no1 i j hi hj⟩)
end
end K11
set_option maxHeartbeats 4000000

/-! B22: draw_arcs, draw. -/
namespace K11
open PySem PySem.Spec PyProof.Rows L2
theorem pg_tupK {X : Cx} {K : PySem.W.Frag} {es : List Expr} {k : Nat} {pos : Pos} {t : TGs} {n : Nat} (eK : X.K = K) (hc : X.calm = true) (h : PGs X es t)
    (hn : (assignEach es X.env).length = n := by rfl) (hst : (assignEach es X.env).findIdx? (·.1) = none := by rfl) : PG X (.Tuple es k pos) (gTup K n t) := eK ▸ pg_tup hc h hn hst
def tailsOf (hs : List (List Nat)) (i m : Nat) : List Nat := ((List.range m).filter fun k => decide (i ∈ hs.getD k [])).map fun k => 1 + k
theorem tailsOf_succ (hs : List (List Nat)) (i m : Nat) : tailsOf hs i (m + 1) = tailsOf hs i m ++ if i ∈ hs.getD m [] then [1 + m] else [] := by
  unfold tailsOf
  rw [List.range_succ, List.filter_append, List.map_append]
  by_cases h : i ∈ hs.getD m []
  · rw [if_pos h]; simp only [List.filter_cons, List.filter_nil, decide_eq_true h, if_true, List.map_cons, List.map_nil]
  · rw [if_neg h]; simp only [List.filter_cons, List.filter_nil, decide_eq_false h, Bool.false_eq_true, if_false, List.map_nil]
theorem tailOf_max (hs : List (List Nat)) (i : Nat) : ∀ m, tailOf hs i m ∈ 0 :: tailsOf hs i m ∧ tailOf hs i m ≤ m ∧ ∀ y ∈ tailsOf hs i m, y ≤ tailOf hs i m
  | 0 => ⟨List.mem_cons_self, Nat.le_refl _, fun y h => by cases h⟩
  | m + 1 => by
    obtain ⟨h1, h2, h3⟩ := tailOf_max hs i m
    rw [tailOf_succ, tailsOf_succ]
    unfold tailStep
    by_cases h : i ∈ hs.getD m []
    · rw [if_pos h, if_pos h]
      refine ⟨?_, Nat.le_refl _, fun y hy => ?_⟩
      · rw [← List.cons_append]
        exact List.mem_append_right _ (by rw [List.mem_singleton]; omega)
      · rcases List.mem_append.mp hy with hy | hy
        · have := h3 y hy; omega
        · rw [List.mem_singleton] at hy; omega
    · rw [if_neg h, if_neg h, List.append_nil]
      exact ⟨h1, by omega, h3⟩
theorem tails_len (hs : List (List Nat)) (i m : Nat) : (tailsOf hs i m).length ≤ m := by
  unfold tailsOf
  rw [List.length_map]
  have := List.length_filter_le (fun k => decide (i ∈ hs.getD k [])) (List.range m)
  rw [List.length_range] at this
  exact this
section
variable {P : Program} {w : World} {K : PySem.W.Frag} {mg : Str → Option Value} {base : Heap} {C : Addr}
abbrev s_draw_arcs : Stmt := topS 2
abbrev N_draw_arcs : List Str := ["order", "fault", "rows", "nodes", "row", "arcs", "element", "tails", "head", "at", "node"]
theorem sc_draw_arcs : FnScope N_draw_arcs ["order"] (defScope s_draw_arcs) := ⟨rfl, rfl, rfl, by decide +kernel, rfl, by decide +kernel, by decide +kernel⟩
/-- what draw_arcs tells -/
def Told (K : PySem.W.Frag) (H : Hp) (v : V) (n : Nat) (U : Nat → List Nat) : Prop := (NoFault n U ∧ Dp K H v (.tuple [.bool true, .tuple (psL (arcsOf n U))])) ∨ ∃ i j k l, Fault n U i j k l ∧ Dp K H v (.tuple [.bool false, .tuple (isL [i, j, k, l])])
def spDrawArcs (C : Addr) (K : PySem.W.Frag) : Sp := fun vs H Q _ => ∃ (o : Addr) (n : Nat) (ms : List Nat), vs = [.ref o] ∧ OrdAt H o C n ms ∧ ∀ v H', Same H H' → Told K H' v n (ucM n ms) → Q v H'
theorem d_drawarcs (T : Blt mg) (O : OC K C) (d_size : Dg P w K mg base 1 C "size" kS) (d_upper_covers : Dm P w K mg base 3 C "upper_covers" (spUC C K)) (t : TD K mg "draw_arcs" s_draw_arcs) (d_arc_fault : Df P w K mg base 4 "arc_fault" (spFault C K)) : Df P w K mg base 5 "draw_arcs" (spDrawArcs C K) := by
  refine df_mk t sc_draw_arcs (fun _ _ _ _ _ _ us hl => match us, hl with | [_], _ => rfl) (fun vs H Q E h => ?_) (fun f cdv A outer s₀ H vs Q E hr h => ?_)
  · obtain ⟨o, n, ms, rfl, _⟩ := h; rfl
  obtain ⟨o, n, ms, rfl, hO, q⟩ := h
  refine ⟨_, pss_cons (ps_set (i := 1) sc_draw_arcs.nd rfl (.inl rfl) (pe_df d_arc_fault hr (by decide) rfl (pa_cons (pv 0) pa_nil)))
      (pss_cons (ps_if (pt_cmpR op_notN (pv 1) (pe_non) (nomark _))
      (pss_one (ps_ret (pe_tup (pa_cons (pe_bl) (pa_cons (pv 1) pa_nil)))))
      (pss_nil))
      (pss_cons (ps_setLc (i := 2) (own := [("element", 6)]) (g := gName 6) rfl sc_draw_arcs.nd rfl rfl (sw_true rfl rfl rfl (by decide +kernel)) (pi_range1 rfl T.b_range (pa_cons (pe_dg d_size O.cls hr (by decide) (pv 0) rfl) pa_nil)) (blkOk_by (own := [("element", 6)]) (N := N_draw_arcs) (sc := defScope s_draw_arcs) (by decide +kernel)) (fun _ _ _ _ _ => pg_name (i := 6) sc_draw_arcs.nd rfl (by first | exact .inl rfl | exact .inr rfl)) (fun _ _ _ _ _ => pts_nil) (fun _ _ _ _ _ => pe_callTy (tupK (K := K) rfl) rfl T.b_tuple (by decide +kernel) (pa_cons (pe_dm d_upper_covers O.cls hr (by decide) (pv 0) (pa_cons (pv 6) pa_nil)) pa_nil)))
      (pss_cons (ps_set (i := 3) sc_draw_arcs.nd rfl (.inl rfl) (pe_lst pa_nil))
      (pss_cons (ps_for PassesOwn.never rfl (pi_list (pv 2)) (pg_name (i := 4) sc_draw_arcs.nd rfl (.inl rfl))
      (pss_one (ps_if (PW.pt (pw_and (pt_cmpR op_gt (pe_callB (lenK (K := K) rfl) rfl T.b_len (by decide +kernel) (pa_cons (pv 4) pa_nil)) (pe_int) (nomark _)) (pw_and1 (pt_cmpR (op_notInD (hu_of65 hr)) (pv 4) (pv 3) rfl))))
      (pss_one (ps_expr (pe_bm PySem.F.plainAttrs_list PySem.F.slot_list_append PySem.F.type_list_append mt_append (pv 3) (pa_cons (pv 4) pa_nil))))
      (pss_nil))))
      (pss_cons (ps_set (i := 5) sc_draw_arcs.nd rfl (.inl rfl) (pe_lst pa_nil))
      (pss_cons (ps_for PassesOwn.never rfl (pi_enum rfl T.b_enumerate (pa_cons (pv 2) pa_nil)) (pg_tup rfl (pgs_cons (pg_name (i := 6) sc_draw_arcs.nd rfl (.inr rfl)) (pgs_cons (pg_name (i := 4) sc_draw_arcs.nd rfl (.inl rfl)) pgs_nil)))
      (pss_cons (ps_setLc (i := 7) (own := [("at", 9), ("node", 10)]) (g := gTup K 2 (gCons (gName 9) (gCons (gName 10) gNil))) rfl sc_draw_arcs.nd rfl rfl (sw_true rfl rfl rfl (by decide +kernel)) (pi_enum rfl T.b_enumerate (pa_cons (pv 3) pa_nil)) (blkOk_by (own := [("at", 9), ("node", 10)]) (N := N_draw_arcs) (sc := defScope s_draw_arcs) (by decide +kernel)) (fun _ _ _ _ _ => pg_tupK (K := K) (n := 2) rfl rfl (pgs_cons (pg_name (i := 9) sc_draw_arcs.nd rfl (by first | exact .inl rfl | exact .inr rfl)) (pgs_cons (pg_name (i := 10) sc_draw_arcs.nd rfl (by first | exact .inl rfl | exact .inr rfl)) pgs_nil))) (fun _ _ _ _ _ => pts_one (pt_cmpR (inK (K := K) rfl) (pv 6) (pv 10) rfl)) (fun _ _ _ _ _ => pe_op op_add (pe_int) (pv 9)))
      (pss_cons (ps_set (i := 8) sc_draw_arcs.nd rfl (.inl rfl) (pe_op op_add (pe_callB (lenK (K := K) rfl) rfl T.b_len (by decide +kernel) (pa_cons (pv 3) pa_nil)) (pe_int)))
      (pss_cons (ps_if (pt_cmpR op_gt (pe_callB (lenK (K := K) rfl) rfl T.b_len (by decide +kernel) (pa_cons (pv 4) pa_nil)) (pe_int) (nomark _))
      (pss_one (ps_set (i := 8) sc_draw_arcs.nd rfl (.inl rfl) (pe_op op_add (pe_int) (pe_bm PySem.F.plainAttrs_list PySem.F.slot_list_index PySem.F.type_list_index (mt_indexD (hu_of65 hr)) (pv 3) (pa_cons (pv 4) pa_nil)))))
      (pss_nil))
      (pss_one (ps_expr (pe_bm PySem.F.plainAttrs_list PySem.F.slot_list_append PySem.F.type_list_append mt_append (pv 5) (pa_cons (pe_tup (pa_cons (pe_callB (maxK (K := K) rfl rfl) rfl T.b_max (by decide +kernel) (pa_cons (pe_op op_cat (pe_lst (pa_cons (pe_int) pa_nil)) (pv 7)) pa_nil)) (pa_cons (pv 8) pa_nil))) pa_nil))))))))
      (pss_one (ps_ret (pe_tup (pa_cons (pe_bl) (pa_cons (pe_callTy (tupK (K := K) rfl) rfl T.b_tuple (by decide +kernel) (pa_cons (pv 5) pa_nil)) pa_nil))))))))))), ?_⟩
  have n100 : n ≤ 100 := by obtain ⟨_, _, _, _, _, _, _, _, _, _, h, _⟩ := hO; exact h
  have hlen : ∀ i, (ucM n ms i).length ≤ n := fun i => bits_len n _
  refine ⟨_, rfl, o, n, ms, rfl, hO, fun v H1 s1 hv => ?_⟩
  generalize hU : ucM n ms = U at q hlen hv
  rcases hv with ⟨rfl, nf⟩ | ⟨t, i, j, k, l, rfl, ht, hF⟩
  · refine ⟨_, rfl, rfl, _, rfl, ite2 (fun c => by cases c) (fun _ => ?_)⟩
    have hO1 := hO.same s1
    -- rows
    refine size_of rfl hO1 ?_
    refine lc_r1 (K := K) (n := n) rfl (by omega) (fun _ => true) (fun i => .tuple (isL (U i))) (fun _ => rfl) (fun z H4 R _ s4 hR => hR H4 (.refl _)) (fun z H4 R hz _ s4 hR => ?_) (fun Sr H2 nSr s2 hSr => ?_)
    · refine uc_of (K := K) (i := z) rfl rfl (hO1.same s4) hz fun r H5 nr s5 hr5 => ?_
      rw [hU] at hr5
      obtain ⟨ys, h1, h2⟩ := hr5
      refine ⟨r, ys, rfl, .inl ⟨SqL.of h1, fun l nl => ?_⟩⟩
      ktr_call (H6 e6 h6) nl
      exact hR _ H6 (s5.trans e6) (.tup (SqT.of h6) (Dp.sameAll e6 _ _ h2)) (.inl (noLA_isL _))
    have eS : (((List.range n).filter fun _ => true).map fun i => PyData.tuple (isL (U i))) = nodL ((List.range n).map U) := by
      rw [show (List.range n).filter (fun _ => true) = List.range n from List.filter_eq_self.mpr fun _ _ => rfl]
      unfold nodL
      rw [List.map_map]
      rfl
    rw [eS] at hSr
    obtain ⟨xs, hx, hd⟩ := hSr
    have lxs : xs.length = n := by rw [dpa_len hd, nodL_len, List.length_map, List.length_range]
    have item : ∀ i, i < n → ∃ r, xs[i]? = some (.ref r) ∧ SqT K H2 r (vN (U i)) := fun i hi => by
      obtain ⟨v, hv, hvd⟩ := dpa_at hd (i := i) (d := .tuple (isL (U i))) (by rw [nodL_at (by rw [List.length_map, List.length_range]; exact hi)]; simp)
      obtain ⟨r, ys, rfl, h1, h2⟩ := dp_tup hvd
      rw [dpa_isL_eq h2] at h1
      exact ⟨r, hv, h1⟩
    -- nodes
    refine ⟨Nat.zero_le _, fun nd nnd => ?_⟩
    ktr_call (H3 e3 h3) nnd
    refine ⟨_, rfl, Sr, rfl, ⟨_, SqL.of (e3 _ _ hx)⟩, for_list (K := K) (a := Sr) (xs := xs) (fun k σ H4 => ∃ v4 acc, σ = [some (.ref o), some .non, some (.ref Sr), some (.ref nd), v4, none, none, none, none, none, none] ∧ Same H2 H4 ∧ Grow K H4 nd acc (nodL (headsOf U k))) ⟨none, [], rfl, e3, .nil h3⟩ (fun k σ H4 _ ⟨_, _, _, s4, _⟩ => SqL.of (s4 _ _ hx)) (fun k x σ H4 hxk hP => ?_) (fun σ H4 hP => ?_)⟩
    · obtain ⟨v4, acc, rfl, s4, g⟩ := hP
      have hk : k < n := by have := (List.getElem?_eq_some_iff.mp hxk).1; omega
      obtain ⟨r, hr1, hrs⟩ := item k hk
      rw [hxk] at hr1
      cases hr1
      have hrs4 := K11.Same.sqt s4 hrs
      have lg := g.len
      rw [nodL_len] at lg
      have lh := headsOf_len U k
      rw [headsOf_succ]
      unfold headStep
      refine ⟨_, rfl, r, _, rfl, .inr hrs4, _, _, rfl, rfl, _, rfl, ?_⟩
      show if decide ((0 : Int) < ((vN (U k)).length : Nat)) = true then _ else _
      rw [vN_len]
      by_cases c1 : U k = []
      · rw [show (if U k ≠ [] ∧ U k ∉ headsOf U k then headsOf U k ++ [U k] else headsOf U k) = headsOf U k from if_neg (fun h => h.1 c1), c1]
        exact ⟨_, acc, rfl, s4, g⟩
      · have l0 : 0 < (U k).length := by
          rcases Nat.eq_zero_or_pos (U k).length with h | h
          · exact absurd (List.eq_nil_of_length_eq_zero h) c1
          · exact h
        rw [decide_eq_true (show (0 : Int) < ((U k).length : Nat) by omega)]
        refine ite2 (fun _ => ?_) (fun c => absurd rfl c)
        have hrd : Dp K H4 (.ref r) (.tuple (isL (U k))) := .tup hrs4 (dpa_isL _)
        refine ⟨_, rfl, _, rfl, _, _, hrd, g.la.dp, shaped_isLt _, shaped_nod _, _, rfl, ?_⟩
        rw [any_nod]
        by_cases c2 : U k ∈ headsOf U k
        · rw [decide_eq_true c2, show (if U k ≠ [] ∧ U k ∉ headsOf U k then headsOf U k ++ [U k] else headsOf U k) = headsOf U k from if_neg (fun h => h.2 c2)]
          exact ⟨_, acc, rfl, s4, g⟩
        · rw [decide_eq_false c2, show (if U k ≠ [] ∧ U k ∉ headsOf U k then headsOf U k ++ [U k] else headsOf U k) = headsOf U k ++ [U k] from if_pos ⟨c1, c2⟩]
          refine ite2 (fun _ => ?_) (fun c => absurd rfl c)
          refine ⟨_, rfl, .inl ⟨rfl, _, SqL.of g.at_⟩, _, rfl, nd, acc, _, rfl, rfl, g.at_, szl (by omega), ?_⟩
          tbr_iter (H5 b5 h5)
          refine ⟨_, acc ++ [.ref r], rfl, K11.Same.but s4 b5 nnd, ?_⟩
          rw [nodL_snoc]
          exact g.app hrd (.inl (noLA_isL _)) b5 h5
    obtain ⟨v4, acc, rfl, s4, g⟩ := hP
    rw [lxs] at g
    generalize hhs : headsOf U n = hs at g
    have lg := g.len
    rw [nodL_len] at lg
    have lhn : hs.length ≤ n := by rw [← hhs]; exact headsOf_len U n
    have gS := SqL.of (K := K) g.at_
    -- arcs
    refine ⟨Nat.zero_le _, fun ar nar => ?_⟩
    ktr_call (H5 e5 h5) nar
    have hitem : ∀ k, k < hs.length → ∃ r, acc[k]? = some (.ref r) ∧ SqT K H4 r (vN (hs.getD k [])) := fun k hk => by
      obtain ⟨v, hv, hvd⟩ := dpa_at g.dat (nodL_at hk)
      obtain ⟨r, ys, rfl, h1, h2⟩ := dp_tup hvd
      rw [dpa_isL_eq h2] at h1
      refine ⟨r, hv, ?_⟩
      have e : hs.getD k [] = hs[k] := by simp [hk]
      rw [e]
      exact h1
    have hx4 := SqL.of (K := K) (s4 _ _ hx)
    refine ⟨_, rfl, Sr, xs, rfl, e5.seq hx4, for_it (walk_enum (K := K) (a := Sr) (xs := xs)) (fun i σ H6 => ∃ v4 v6 v7 v8 acc2, σ = [some (.ref o), some .non, some (.ref Sr), some (.ref nd), v4, some (.ref ar), v6, v7, v8, none, none] ∧ Same H4 H6 ∧ Grow K H6 ar acc2 (psL ((List.range i).map (arcAt n U)))) ⟨v4, none, none, none, [], rfl, e5, .nil h5⟩ (fun i σ H6 _ ⟨_, _, _, _, _, _, s6, _⟩ => s6.seq hx4) (fun i x σ H6 H7 hi hP hY => ?_) (fun σ H6 hP => ?_)⟩
    · obtain ⟨v4, v6, v7, v8, acc2, rfl, s6, g6⟩ := hP
      obtain ⟨tt, x1, y1, rfl, ntt, rfl, hx1, hy1⟩ := hY
      cases hx1
      have hy1 : xs[i]? = some y1 := hy1
      ktr_call (H7 e7 h7) ntt
      have hi : i < n := by omega
      obtain ⟨r, hr1, hrs⟩ := item i hi
      rw [hy1] at hr1
      cases hr1
      have s7 := s6.trans e7
      have g7 := g6.same e7
      have hrs7 := K11.Same.sqt (s4.trans s7) hrs
      have la2 := g7.len
      rw [psL_len, List.length_map, List.length_range] at la2
      refine ⟨tt, _, rfl, SqT.of h7, rfl, _, _, rfl, _, _, rfl, rfl, ?_⟩
      -- tails
      refine ⟨_, rfl, nd, acc, rfl, s7.seq gS, fun D nD => lc_it (walk_enum (K := K) (a := nd) (xs := acc)) (fun m H8 => Same H7 H8 ∧ H8 D = some (.lst (vN (tailsOf hs i m)))) ⟨same_up nD, upd_same⟩ (fun m H8 _ ⟨s8, _⟩ => s8.seq (s7.seq gS)) (fun m x H8 H9 hm ⟨s8, h8⟩ hY => ?_) (fun H8 ⟨s8, h8⟩ => ?_)⟩
      · obtain ⟨t2, x2, y2, rfl, nt2, rfl, hx2, hy2⟩ := hY
        cases hx2
        have hy2 : acc[m]? = some y2 := hy2
        ktr_call (H9 e9 h9) nt2
        have hm : m < hs.length := by omega
        obtain ⟨r2, hr2, hrs2⟩ := hitem m hm
        rw [hy2] at hr2
        cases hr2
        have s9 := s8.trans e9
        have h9D := e9 _ _ h8
        have lt := tails_len hs i m
        refine ⟨t2, _, rfl, SqT.of h9, rfl, _, _, rfl, _, _, rfl, rfl, rfl, ?_⟩
        refine ⟨_, rfl, _, rfl, r2, _, rfl, .inr (K11.Same.sqt (s7.trans s9) hrs2), rfl, flat_vN _, _, rfl, ?_⟩
        show if inV (.int (i : Nat)) (vN (hs.getD m [])) = true then _ else _
        rw [inV_vN, tailsOf_succ]
        refine ite2 (fun c => ?_) (fun c => ?_)
        · rw [if_pos (of_decide_eq_true c)]
          refine ⟨_, rfl, _, _, rfl, rfl, _, h9D, szl (by rw [vN_len]; omega), K11.Same.mut s9 nD, ?_⟩
          rw [upd_same]
          unfold vN
          rw [List.map_append]
          rfl
        · rw [if_neg (fun h => c (decide_eq_true h)), List.append_nil]
          exact ⟨s9, h9D⟩
      rw [lg] at h8
      have s78 := s7.trans s8
      have g8 := g7.same s8
      have hrs8 := K11.Same.sqt s8 hrs7
      have hrd8 : Dp K H8 (.ref r) (.tuple (isL (U i))) := .tup hrs8 (dpa_isL _)
      -- head
      refine ⟨_, rfl, nd, acc, rfl, .inl (s78.seq gS), _, _, rfl, rfl, ?_⟩
      rw [lg]
      refine ⟨_, rfl, r, _, rfl, .inr hrs8, _, _, rfl, rfl, _, rfl, ?_⟩
      show if decide ((0 : Int) < ((vN (U i)).length : Nat)) = true then _ else _
      rw [vN_len]
      refine if_go (fun σ' H' => H8 = H' ∧ σ' = [some (.ref o), some .non, some (.ref Sr), some (.ref nd), some (.ref r), some (.ref ar), some (.int (i : Nat)), some (.ref D), some (.int (headOf hs (U i) : Nat)), none, none]) (fun c go => ?_) (fun c => ?_) (fun σ' H' G => ?_)
      · have c := of_decide_eq_true c
        have c1 : U i ≠ [] := fun e => by rw [e] at c; exact absurd c (by decide)
        have hm : U i ∈ hs := by rw [← hhs]; exact mem_headsOf U hi c1
        have hlt : hs.idxOf (U i) < hs.length := List.idxOf_lt_length_of_mem hm
        refine ⟨_, rfl, .inl ⟨rfl, _, s78.seq gS⟩, _, rfl, ?_⟩
        refine ⟨nd, .ref r, .tuple (isL (U i)), nodL hs, hs.idxOf (U i), .tuple (isL (U i)), rfl, rfl, (g.same s78).la.dp, hrd8, shaped_nod _, shaped_isLt _, ?_, ?_, fun m z' hm' hz => ?_, _, _, rfl, rfl, ?_⟩
        · rw [nodL_at hlt]
          have : hs[hs.idxOf (U i)] = U i := List.getElem_idxOf hlt
          rw [this]
        · rw [eqv_isLt, decide_eq_true rfl]
        · rw [nodL_at (Nat.lt_trans hm' hlt)] at hz
          cases hz
          rw [eqv_isLt, decide_eq_false]
          intro e
          have := idx_leL (l := hs) (Nat.lt_trans hm' hlt)
          rw [e] at this
          omega
        · refine go _ _ ⟨rfl, ?_⟩
          unfold headOf
          rw [if_neg c1]
          rfl
      · have c1 : U i = [] := List.eq_nil_of_length_eq_zero (by
          rcases Nat.eq_zero_or_pos (U i).length with h | h
          · exact h
          · exact absurd (decide_eq_true (show (0 : Int) < ((U i).length : Nat) by omega)) c)
        refine ⟨rfl, ?_⟩
        unfold headOf
        rw [if_pos c1]
        rfl
      obtain ⟨rfl, rfl⟩ := G
      -- arcs.append((max([0] + tails), head))
      obtain ⟨mx1, mx2, mx3⟩ := tailOf_max hs i hs.length
      have lt := tails_len hs i hs.length
      refine ⟨_, rfl, .inl ⟨rfl, _, SqL.of g8.at_⟩, sz (by show 1 ≤ 1000000; decide), fun z nz => ?_⟩
      ktr_call (H9 e9 h9) nz
      refine ⟨_, rfl, z, D, _, _, rfl, rfl, h9, e9 _ _ h8, sz (by rw [vN_len, List.length_singleton]; omega), fun mz nmz => ?_⟩
      ktr_call (HA eA hA) nmz
      have hmz : HA mz = some (.lst ((((0 : Nat) :: tailsOf hs i hs.length).map fun n : Nat => (n : Int)).map V.int)) := by
        rw [hA, ← vN_int]
        rfl
      refine ⟨mz, _, rfl, SqL.of hmz, by simp, fun mm hmm hle => ?_⟩
      have em : mm = (tailOf hs i hs.length : Nat) := by
        obtain ⟨y, hy, rfl⟩ := List.mem_map.mp hmm
        have h1 := hle (tailOf hs i hs.length : Nat) (List.mem_map.mpr ⟨_, mx1, rfl⟩)
        rcases List.mem_cons.mp hy with rfl | hy
        · omega
        · have := mx3 y hy
          omega
      subst em
      refine ⟨_, rfl, sz (by show 2 ≤ 1000000; decide), fun tp ntp => ?_⟩
      ktr_call (HB eB hB) ntp
      have eAB := (e9.trans eA).trans eB
      have gB := g8.same eAB
      refine ⟨ar, acc2, .ref tp, rfl, rfl, gB.at_, szl (by omega), ?_⟩
      tbr_iter (HC bC hC)
      refine ⟨_, _, _, _, acc2 ++ [.ref tp], rfl, K11.Same.but (s78.trans eAB) bC nar, ?_⟩
      rw [List.range_succ, List.map_append, psL_app]
      refine gB.app (d := pD (arcAt n U i)) (dp_pD_mk (p := arcAt n U i) ?_) (.inl rfl) bC hC
      rw [hB]
      unfold arcAt
      rw [hhs]
    · obtain ⟨v4, v6, v7, v8, acc2, rfl, s6, g6⟩ := hP
      rw [lxs] at g6
      refine ⟨_, rfl, ar, acc2, rfl, .inl ⟨SqL.of g6.at_, fun l nl => ?_⟩⟩
      ktr_call (H7 e7 h7) nl
      refine ⟨sz (by show 2 ≤ 1000000; decide), fun t nt => ?_⟩
      ktr_call (H8 e8 h8) nt
      have e78 := e7.trans e8
      exact q _ H8 ((((s1.trans s2).trans s4).trans s6).trans e78) (.inl ⟨nf, .tup (SqT.of h8) (.cons (.bl _) (.cons (.tup (SqT.of (e8 _ _ h7)) (Dp.sameAll e78 _ _ g6.dat)) .nil))⟩)
  · refine ⟨_, rfl, rfl, _, rfl, ite2 (fun _ => ?_) (fun c => absurd rfl c)⟩
    refine ⟨_, rfl, sz (by show 2 ≤ 1000000; decide), fun t2 nt2 => ?_⟩
    ktr_call (H2 e2 h2) nt2
    exact q _ H2 (s1.trans e2) (.inr ⟨i, j, k, l, hF, .tup (SqT.of h2) (.cons (.bl _) (.cons (.tup (SqT.of (e2 _ _ ht)) (dpa_isL _)) .nil))⟩)

abbrev s_draw : Stmt := topS 55
abbrev N_draw : List Str := ["order", "kind"]
theorem sc_draw : FnScope N_draw ["order", "kind"] (defScope s_draw) := ⟨rfl, rfl, rfl, by decide +kernel, rfl, by decide +kernel, by decide +kernel⟩
def spDraw2 (C : Addr) (K : PySem.W.Frag) : Sp := fun vs H Q _ => ∃ (o : Addr) (n : Nat) (ms : List Nat), vs = [.ref o, .str "arcs"] ∧ OrdAt H o C n ms ∧ ∀ v H', Same H H' → Told K H' v n (ucM n ms) → Q v H'
theorem d_draw2 (T : Blt mg) (t : TD K mg "draw" s_draw) (d_draw_arcs : Df P w K mg base 5 "draw_arcs" (spDrawArcs C K)) : Df P w K mg base 6 "draw" (spDraw2 C K) := by
  refine df_mk t sc_draw (fun _ _ _ _ _ _ us hl => match us, hl with | [_, _], _ => rfl) (fun vs H Q E h => ?_) (fun f cdv A outer s₀ H vs Q E hr h => ?_)
  · obtain ⟨o, n, ms, rfl, _⟩ := h; rfl
  obtain ⟨o, n, ms, rfl, hO, q⟩ := h
  refine ⟨_, pss_cons (ps_match (pv 1) (pm_case (pss_one (ps_never)) (pm_case (pss_one (ps_never)) (pm_case (pss_one (ps_never)) (pm_case (pss_one (ps_ret (pe_df d_draw_arcs hr (by decide) rfl (pa_cons (pv 0) pa_nil)))) (pm_case (pss_one (ps_never)) (pm_case (pss_one (ps_never)) pm_nil)))))))
      (pss_one (ps_never)), ?_⟩
  refine ⟨_, rfl, _, rfl, ite2 (fun c => absurd c (by decide)) (fun _ => ite2 (fun c => absurd c (by decide)) (fun _ => ite2 (fun c => absurd c (by decide)) (fun _ => ite2 (fun _ => ?_) (fun c => absurd rfl c))))⟩
  exact ⟨_, rfl, o, n, ms, rfl, hO, q⟩
end
end K11
set_option maxHeartbeats 4000000
/-! C1: the plain law: closures, covers, nets. -/
namespace K11
open PySem PySem.Spec PyProof.Rows L2
/-! ### closures -/
inductive Path (R : Nat → Nat → Prop) : Nat → Nat → Prop
  | one {a b : Nat} (h : R a b) : Path R a b
  | cons {a b c : Nat} (h : R a b) (p : Path R b c) : Path R a c
theorem Path.trans {R : Nat → Nat → Prop} {a b c : Nat} (p : Path R a b) (q : Path R b c) : Path R a c := by
  induction p with
  | one h => exact .cons h q
  | cons h _ ih => exact .cons h (ih q)
/-- the closure of a relation by phases -/
def wfold (T : Nat → Nat → Bool) (k : Nat) : Nat → Nat → Bool := (List.range k).foldl (fun T t => wst t T) T
theorem wfold_succ (T : Nat → Nat → Bool) (k : Nat) : wfold T (k + 1) = wst k (wfold T k) := by unfold wfold; rw [List.range_succ, List.foldl_append]; rfl
theorem cloK_wfold (ps : List (Nat × Nat)) (k : Nat) : cloK ps k = wfold (tab0 ps) k := rfl
theorem wst_iff {t : Nat} {T : Nat → Nat → Bool} {i j : Nat} : wst t T i j = true ↔ T i j = true ∨ (T i t = true ∧ T t j = true) := by
  unfold wst
  rw [Bool.or_eq_true, Bool.and_eq_true]
theorem wfold_base {T : Nat → Nat → Bool} {i j : Nat} (h : T i j = true) : ∀ k, wfold T k i j = true
  | 0 => h
  | k + 1 => by
    rw [wfold_succ]
    exact wst_iff.mpr (.inl (wfold_base h k))
theorem wfold_through (T : Nat → Nat → Bool) : ∀ k t, t < k → ∀ i j, wfold T k i t = true → wfold T k t j = true → wfold T k i j = true
  | 0, t, h, _, _, _, _ => absurd h (Nat.not_lt_zero _)
  | k + 1, t, h, i, j, h1, h2 => by
    have ih := wfold_through T k
    rw [wfold_succ] at h1 h2 ⊢
    by_cases e : t = k
    · subst e
      have a1 : wfold T t i t = true := by
        rcases wst_iff.mp h1 with h | ⟨h, _⟩ <;> exact h
      have a2 : wfold T t t j = true := by
        rcases wst_iff.mp h2 with h | ⟨_, h⟩ <;> exact h
      exact wst_iff.mpr (.inr ⟨a1, a2⟩)
    · have ht : t < k := by omega
      rcases wst_iff.mp h1 with a | ⟨a, a'⟩ <;> rcases wst_iff.mp h2 with b | ⟨b, b'⟩
      · exact wst_iff.mpr (.inl (ih t ht i j a b))
      · exact wst_iff.mpr (.inr ⟨ih t ht i k a b, b'⟩)
      · exact wst_iff.mpr (.inr ⟨a, ih t ht k j a' b⟩)
      · exact wst_iff.mpr (.inr ⟨a, b'⟩)
theorem wfold_sound (T : Nat → Nat → Bool) : ∀ k i j, wfold T k i j = true → Path (fun a b => T a b = true) i j
  | 0, i, j, h => .one h
  | k + 1, i, j, h => by
    rw [wfold_succ] at h
    rcases wst_iff.mp h with h | ⟨h1, h2⟩
    · exact wfold_sound T k i j h
    · exact (wfold_sound T k i k h1).trans (wfold_sound T k k j h2)
theorem wfold_complete (T : Nat → Nat → Bool) (n : Nat) (hb : ∀ i j, T i j = true → j < n) {i j : Nat} (p : Path (fun a b => T a b = true) i j) : wfold T n i j = true := by
  induction p with
  | one h => exact wfold_base h n
  | cons h _ ih => exact wfold_through T n _ (hb _ _ h) _ _ (wfold_base h n) ih
def InP (ps : List (Nat × Nat)) (a b : Nat) : Prop := (a, b) ∈ ps
theorem clo_iff {ps : List (Nat × Nat)} {n : Nat} (hb : Below n ps) {i j : Nat} : cloK ps n i j = true ↔ Path (InP ps) i j := by
  have e : ∀ a b, tab0 ps a b = true ↔ InP ps a b := fun a b => by unfold tab0 InP; rw [decide_eq_true_iff]
  have mono : ∀ {R S : Nat → Nat → Prop}, (∀ a b, R a b → S a b) → ∀ {a b}, Path R a b → Path S a b := fun hRS => by
    intro a b p
    induction p with
    | one h => exact .one (hRS _ _ h)
    | cons h _ ih => exact .cons (hRS _ _ h) ih
  rw [cloK_wfold]
  constructor
  · intro h
    exact mono (fun a b => (e a b).mp) (wfold_sound _ _ _ _ h)
  · intro p
    exact wfold_complete _ n (fun a b h => (hb _ ((e a b).mp h)).2) (mono (fun a b => (e a b).mpr) p)
theorem Path.mono {R S : Nat → Nat → Prop} (h : ∀ a b, R a b → Path S a b) {a b : Nat} (p : Path R a b) : Path S a b := by
  induction p with
  | one q => exact h _ _ q
  | cons q _ ih => exact (h _ _ q).trans ih
theorem Path.rank {R : Nat → Nat → Prop} {r : Nat → Nat} (h : ∀ a b, R a b → r a < r b) {a b : Nat} (p : Path R a b) : r a < r b := by
  induction p with
  | one q => exact h _ _ q
  | cons q _ ih => exact Nat.lt_trans (h _ _ q) ih
theorem Path.first {R : Nat → Nat → Prop} {P : Nat → Prop} (h : ∀ a b, R a b → P a) {a b : Nat} (p : Path R a b) : P a := by
  cases p with
  | one q => exact h _ _ q
  | cons q _ => exact h _ _ q
theorem Path.last {R : Nat → Nat → Prop} {P : Nat → Prop} (h : ∀ a b, R a b → P b) {a b : Nat} (p : Path R a b) : P b := by
  induction p with
  | one q => exact h _ _ q
  | cons _ _ ih => exact ih

/-- a strict order below n, with a rank -/
structure Strict (n : Nat) (X : Nat → Nat → Bool) (r : Nat → Nat) : Prop where
  lt : ∀ i j, X i j = true → i < n ∧ j < n
  tr : ∀ i j k, X i j = true → X j k = true → X i k = true
  up : ∀ i j, X i j = true → r i < r j
theorem Strict.irr {n : Nat} {X : Nat → Nat → Bool} {r : Nat → Nat} (S : Strict n X r) (i : Nat) : X i i = false := by
  cases h : X i i with
  | false => rfl
  | true => exact absurd (S.up i i h) (Nat.lt_irrefl _)
theorem strict_clo {n : Nat} {ps : List (Nat × Nat)} (A : Acy n ps) : ∃ r, Strict n (cloK ps n) r := by
  obtain ⟨hb, r, hr⟩ := A
  refine ⟨r, fun i j h => ?_, fun i j k h1 h2 => ?_, fun i j h => ?_⟩
  · have p := (clo_iff hb).mp h
    exact ⟨p.first (P := fun x => x < n) fun a b q => (hb _ q).1, p.last (P := fun x => x < n) fun a b q => (hb _ q).2⟩
  · exact (clo_iff hb).mpr (((clo_iff hb).mp h1).trans ((clo_iff hb).mp h2))
  · exact ((clo_iff hb).mp h).rank fun a b q => hr _ q
/-- a pair more: no ring, if the other way round is not told -/
theorem acy_more {n : Nat} {ps : List (Nat × Nat)} (A : Acy n ps) {l h : Nat} (hl : l < n) (hh : h < n) (ne : l ≠ h) (no : cloK ps n h l = false) : Acy n (ps ++ [(l, h)]) := by
  obtain ⟨r, S⟩ := strict_clo A
  obtain ⟨hb, r0, hr⟩ := A
  refine ⟨fun p hp => ?_, fun x => if x = h ∨ cloK ps n h x = true then r x + (r l + 1) else r x, fun p hp => ?_⟩
  · rcases List.mem_append.mp hp with hp | hp
    · exact hb p hp
    · rw [List.mem_singleton] at hp
      subst hp
      exact ⟨hl, hh⟩
  · rcases List.mem_append.mp hp with hp | hp
    · have up := S.up p.1 p.2 ((clo_iff hb).mpr (.one hp))
      show (if p.1 = h ∨ cloK ps n h p.1 = true then r p.1 + (r l + 1) else r p.1) < (if p.2 = h ∨ cloK ps n h p.2 = true then r p.2 + (r l + 1) else r p.2)
      by_cases c1 : p.1 = h ∨ cloK ps n h p.1 = true
      · have c2 : p.2 = h ∨ cloK ps n h p.2 = true := by
          refine .inr ?_
          rcases c1 with c1 | c1
          · rw [← c1]
            exact (clo_iff hb).mpr (.one hp)
          · exact S.tr _ _ _ c1 ((clo_iff hb).mpr (.one hp))
        rw [if_pos c1, if_pos c2]
        omega
      · rw [if_neg c1]
        split <;> omega
    · rw [List.mem_singleton] at hp
      subst hp
      show (if l = h ∨ cloK ps n h l = true then r l + (r l + 1) else r l) < (if h = h ∨ cloK ps n h h = true then r h + (r l + 1) else r h)
      rw [if_neg (fun c => by rcases c with c | c; exact ne c; rw [no] at c; cases c), if_pos (.inl rfl)]
      omega
/-! ### covers -/
theorem cov_iff {n : Nat} {X : Nat → Nat → Bool} {i j : Nat} : cov n X i j = true ↔ X i j = true ∧ ∀ k, k < n → ¬ (X i k = true ∧ X k j = true) := by
  unfold cov
  rw [Bool.and_eq_true, Bool.not_eq_true', List.any_eq_false]
  constructor
  · rintro ⟨h1, h2⟩
    refine ⟨h1, fun k hk h => h2 k (List.mem_range.mpr hk) ?_⟩
    rw [Bool.and_eq_true]
    exact h
  · rintro ⟨h1, h2⟩
    refine ⟨h1, fun k hk h => h2 k (List.mem_range.mp hk) ?_⟩
    rwa [Bool.and_eq_true] at h
theorem mem_upp {n : Nat} {X : Nat → Nat → Bool} {i j : Nat} : j ∈ upp n X i ↔ j < n ∧ cov n X i j = true := by
  unfold upp
  rw [List.mem_filter, List.mem_range]
theorem cov_path {n : Nat} {X : Nat → Nat → Bool} {r : Nat → Nat} (S : Strict n X r) : ∀ (d i j : Nat), r j - r i ≤ d → X i j = true → Path (fun a b => cov n X a b = true) i j
  | 0, i, j, hd, h => by have := S.up i j h; omega
  | d + 1, i, j, hd, h => by
    by_cases c : cov n X i j = true
    · exact .one c
    · have : ∃ k, k < n ∧ X i k = true ∧ X k j = true := by
        refine Classical.byContradiction fun hn => c (cov_iff.mpr ⟨h, fun k hk hx => hn ⟨k, hk, hx⟩⟩)
      obtain ⟨k, _, h1, h2⟩ := this
      have u1 := S.up i k h1
      have u2 := S.up k j h2
      exact (cov_path S d i k (by omega) h1).trans (cov_path S d k j (by omega) h2)
/-- pairs between the covers and the order have the order as their closure -/
theorem clo_told {n : Nat} {X : Nat → Nat → Bool} {r : Nat → Nat} (S : Strict n X r) {ks : List (Nat × Nat)} (h1 : ∀ p ∈ ks, X p.1 p.2 = true) (h2 : ∀ i j, i < n → j < n → cov n X i j = true → (i, j) ∈ ks) :
    Acy n ks ∧ ∀ i j, cloK ks n i j = X i j := by
  have hb : Below n ks := fun p hp => S.lt _ _ (h1 p hp)
  refine ⟨⟨hb, r, fun p hp => S.up _ _ (h1 p hp)⟩, fun i j => ?_⟩
  have e : cloK ks n i j = true ↔ X i j = true := by
    rw [clo_iff hb]
    constructor
    · intro p
      induction p with
      | one q => exact h1 _ q
      | cons q _ ih => exact S.tr _ _ _ (h1 _ q) ih
    · intro h
      refine (cov_path S _ i j (Nat.le_refl _) h).mono fun a b c => .one ?_
      have := S.lt a b (cov_iff.mp c).1
      exact h2 a b this.1 this.2 c
  cases h : X i j with
  | true => exact e.mpr h
  | false =>
    cases h' : cloK ks n i j with
    | false => rfl
    | true => rw [e.mp h'] at h; cases h
/-! ### masks -/
theorem maskOf_bit (ns : List Nat) (j : Nat) : (maskOf ns).testBit j = decide (j ∈ ns) := by
  unfold maskOf
  have key : ∀ (ns : List Nat) (m : Nat), (ns.foldl (fun m e => m ||| 2 ^ e) m).testBit j = (m.testBit j || decide (j ∈ ns)) := by
    intro ns
    induction ns with
    | nil => intro m; simp
    | cons x ns ih =>
      intro m
      rw [List.foldl_cons, ih, Nat.testBit_or, Nat.testBit_two_pow, Bool.or_assoc]
      congr 1
      by_cases h : x = j
      · subst h; simp
      · have : ¬ j = x := fun e => h e.symm
        simp [h, this]
  rw [key, Nat.zero_testBit, Bool.false_or]
theorem closeM_bit (ms : List Nat) : ∀ (k i j : Nat), ((closeM ms k).getD i 0).testBit j = wfold (fun a b => (ms.getD a 0).testBit b) k i j
  | 0, i, j => rfl
  | k + 1, i, j => by
    have ih := closeM_bit ms k
    rw [closeM_succ, wfold_succ]
    unfold wst
    rw [← ih, ← ih, ← ih]
    unfold mphase
    by_cases hi : i < (closeM ms k).length
    · have e : ((closeM ms k).map (mf k ((closeM ms k).getD k 0))).getD i 0 = mf k ((closeM ms k).getD k 0) ((closeM ms k).getD i 0) := by simp [hi]
      rw [e]
      unfold mf
      split
      · rename_i h
        rw [Nat.testBit_or, h, Bool.true_and]
      · rename_i h
        have h : ((closeM ms k).getD i 0).testBit k = false := by simpa using h
        rw [h, Bool.false_and, Bool.or_false]
    · have e1 : ((closeM ms k).map (mf k ((closeM ms k).getD k 0))).getD i 0 = 0 := by simp [Nat.le_of_not_lt hi]
      have e2 : (closeM ms k).getD i 0 = 0 := by simp [Nat.le_of_not_lt hi]
      rw [e1, e2, Nat.zero_testBit, Nat.zero_testBit]
      rfl
theorem upM_bit {n : Nat} {ps : List (Nat × Nat)} (hb : Below n ps) (i j : Nat) : ((upM n ps).getD i 0).testBit j = cloK ps n i j := by
  unfold upM
  rw [closeM_bit, cloK_wfold]
  congr 1
  funext a b
  unfold tab0
  by_cases ha : a < n
  · have e : ((adjs n ps).map maskOf).getD a 0 = maskOf (adjF ps a) := by unfold adjs; simp [ha]
    rw [e, maskOf_bit]
    congr 1
    exact propext mem_adjF
  · have e : ((adjs n ps).map maskOf).getD a 0 = 0 := by unfold adjs; simp [Nat.le_of_not_lt ha]
    rw [e, Nat.zero_testBit]
    symm
    rw [decide_eq_false_iff_not]
    intro h
    exact ha (hb _ h).1
theorem orAll_bit (n : Nat) (ms : List Nat) (m j : Nat) : (orAll n ms m).testBit j = (List.range n).any fun t => m.testBit t && (ms.getD t 0).testBit j := by
  unfold orAll bitsOf
  have key : ∀ (l : List Nat) (f : Nat), ((l.filter fun i => m.testBit i).foldl (fun f j => f ||| ms.getD j 0) f).testBit j = (f.testBit j || l.any fun t => m.testBit t && (ms.getD t 0).testBit j) := by
    intro l
    induction l with
    | nil => intro f; simp
    | cons x l ih =>
      intro f
      rw [List.any_cons]
      cases h : m.testBit x with
      | true =>
        rw [List.filter_cons_of_pos h, List.foldl_cons, ih, Nat.testBit_or, Bool.or_assoc, Bool.true_and]
      | false =>
        rw [List.filter_cons_of_neg (by rw [h]; exact Bool.false_ne_true), ih, Bool.false_and, Bool.false_or]
  rw [key, Nat.zero_testBit, Bool.false_or]
theorem ucM_upp {n : Nat} {ks : List (Nat × Nat)} (hb : Below n ks) {X : Nat → Nat → Bool} (hX : ∀ i j, cloK ks n i j = X i j) (i : Nat) : ucM n (upM n ks) i = upp n X i := by
  unfold ucM bitsOf upp
  apply List.filter_congr
  intro j _
  rw [testBit_wo, orAll_bit, upM_bit hb, hX]
  unfold cov
  congr 2
  congr 1
  funext t
  rw [upM_bit hb, upM_bit hb, hX, hX]
end K11
set_option maxHeartbeats 4000000
/-! C2: the plain law: nets, bars, texts. -/
namespace K11
open PySem PySem.Spec PyProof.Rows L2
section
variable {n : Nat} {X : Nat → Nat → Bool} {r : Nat → Nat}
theorem bar_iff {i j k l : Nat} : Bar n X i j k l = true ↔ (i ≠ j ∧ i ≠ k ∧ i ≠ l ∧ j ≠ k ∧ j ≠ l ∧ k ≠ l) ∧ cov n X i k = true ∧ cov n X j k = true ∧ cov n X j l = true ∧ cov n X i l = false := by
  unfold Bar bar4
  rw [Bool.and_eq_true, Bool.and_eq_true, Bool.and_eq_true, Bool.and_eq_true, dst_iff, Bool.not_eq_true']
  constructor
  · rintro ⟨h, ⟨⟨h1, h2⟩, h3⟩, h4⟩
    exact ⟨h, h1, h2, h3, h4⟩
  · rintro ⟨h, h1, h2, h3, h4⟩
    exact ⟨h, ⟨⟨h1, h2⟩, h3⟩, h4⟩
theorem fault_bar (S : Strict n X r) {i j k l : Nat} (h : Fault n (upp n X) i j k l) : k < n ∧ l < n ∧ Bar n X i j k l = true := by
  obtain ⟨hi, hj, h1, h2, h3, h4⟩ := h
  obtain ⟨hk, c1⟩ := mem_upp.mp h1
  obtain ⟨_, c2⟩ := mem_upp.mp h2
  obtain ⟨hl, c3⟩ := mem_upp.mp h3
  have c4 : cov n X i l = false := by
    cases h : cov n X i l with
    | false => rfl
    | true => exact absurd (mem_upp.mpr ⟨hl, h⟩) h4
  have u1 := S.up _ _ (cov_iff.mp c1).1
  have u2 := S.up _ _ (cov_iff.mp c2).1
  have u3 := S.up _ _ (cov_iff.mp c3).1
  refine ⟨hk, hl, bar_iff.mpr ⟨⟨fun e => ?_, fun e => ?_, fun e => ?_, fun e => ?_, fun e => ?_, fun e => ?_⟩, c1, c2, c3, c4⟩⟩
  · subst e; rw [c3] at c4; cases c4
  · subst e; exact Nat.lt_irrefl _ u1
  · subst e
    exact (cov_iff.mp c2).2 i hi ⟨(cov_iff.mp c3).1, (cov_iff.mp c1).1⟩
  · subst e; exact Nat.lt_irrefl _ u2
  · subst e; exact Nat.lt_irrefl _ u3
  · subst e; rw [c1] at c4; cases c4
theorem bar_fault {i j k l : Nat} (hi : i < n) (hj : j < n) (hk : k < n) (hl : l < n) (h : Bar n X i j k l = true) : Fault n (upp n X) i j k l := by
  obtain ⟨_, c1, c2, c3, c4⟩ := bar_iff.mp h
  refine ⟨hi, hj, mem_upp.mpr ⟨hk, c1⟩, mem_upp.mpr ⟨hk, c2⟩, mem_upp.mpr ⟨hl, c3⟩, fun m => ?_⟩
  rw [(mem_upp.mp m).2] at c4
  cases c4
theorem no_fault_bar {U : Nat → List Nat} {i j k l : Nat} (N : NoFault n U) (h : Fault n U i j k l) : False := by
  obtain ⟨hi, hj, h1, h2, h3, h4⟩ := h
  exact h4 (N i j hi hj k h1 h2 l h3)
end
/-- a net that is planted has no bar -/
theorem planted {ps : List (Nat × Nat)} (h : ∀ p ∈ ps, p.1 < p.2) : NoFault ps.length (upp ps.length (cloK (byArcs ps) ps.length)) := by
  have A := acy_arcs rfl h
  have hb := A.1
  have ev : ∀ i, i < ps.length → fs ps i < sn ps i := fun i hi => by
    have h4 := h ps[i] (List.getElem_mem _)
    have e1 : fs ps i = ps[i].1 := by unfold fs; simp [hi]
    have e2 : sn ps i = ps[i].2 := by unfold sn; simp [hi]
    omega
  have e : ∀ a b, InP (byArcs ps) a b ↔ a < ps.length ∧ b < ps.length ∧ sn ps a = fs ps b := fun a b => by
    unfold InP byArcs
    rw [mem_grid]
    simp
  have mono : ∀ a b, Path (InP (byArcs ps)) a b → sn ps a ≤ fs ps b := fun a b p => by
    induction p with
    | one q => have := (e _ _).mp q; omega
    | cons q p' ih =>
      obtain ⟨h1, h2, h3⟩ := (e _ _).mp q
      have := ev _ h2
      omega
  generalize hX : cloK (byArcs ps) ps.length = X
  have x : ∀ a b, X a b = true ↔ Path (InP (byArcs ps)) a b := fun a b => by rw [← hX]; exact clo_iff hb
  have c : ∀ a b, a < ps.length → b < ps.length → (cov ps.length X a b = true ↔ sn ps a = fs ps b) := fun a b ha hb' => by
    rw [cov_iff]
    constructor
    · rintro ⟨h1, h2⟩
      have p := (x a b).mp h1
      cases p with
      | one q => exact ((e _ _).mp q).2.2
      | cons q p' =>
        have := (e _ _).mp q
        exact absurd ⟨(x _ _).mpr (.one q), (x _ _).mpr p'⟩ (h2 _ this.2.1)
    · intro h1
      refine ⟨(x a b).mpr (.one ((e a b).mpr ⟨ha, hb', h1⟩)), fun k hk hx => ?_⟩
      have m1 := mono _ _ ((x _ _).mp hx.1)
      have m2 := mono _ _ ((x _ _).mp hx.2)
      have := ev k hk
      omega
  intro i j hi hj k h1 h2 l h3
  obtain ⟨hk, c1⟩ := mem_upp.mp h1
  obtain ⟨_, c2⟩ := mem_upp.mp h2
  obtain ⟨hl, c3⟩ := mem_upp.mp h3
  rw [c i k hi hk] at c1
  rw [c j k hj hk] at c2
  rw [c j l hj hl] at c3
  exact mem_upp.mpr ⟨hl, (c i l hi hl).mpr (by omega)⟩
/-- rows that share an element are the same row -/
theorem upp_eq {n : Nat} {X : Nat → Nat → Bool} (N : NoFault n (upp n X)) {i j k : Nat} (hi : i < n) (hj : j < n) (h1 : k ∈ upp n X i) (h2 : k ∈ upp n X j) : upp n X i = upp n X j := by
  unfold upp
  apply List.filter_congr
  intro l hl
  have hl := List.mem_range.mp hl
  have a : l ∈ upp n X i ↔ l ∈ upp n X j := ⟨fun h => N j i hj hi k h2 h1 l h, fun h => N i j hi hj k h1 h2 l h⟩
  rw [mem_upp, mem_upp] at a
  cases h : cov n X i l with
  | true => exact ((a.mp ⟨hl, h⟩).2).symm
  | false =>
    cases h' : cov n X j l with
    | false => rfl
    | true => rw [(a.mpr ⟨hl, h'⟩).2] at h; cases h
theorem tailOf_none {hs : List (List Nat)} {i : Nat} : ∀ {m : Nat}, (∀ k, k < m → i ∉ hs.getD k []) → tailOf hs i m = 0
  | 0, _ => rfl
  | m + 1, h => by
    rw [tailOf_succ]
    unfold tailStep
    rw [if_neg (h m (Nat.lt_succ_self _))]
    exact tailOf_none fun k hk => h k (by omega)
theorem tailOf_only {hs : List (List Nat)} {i a : Nat} (ha : i ∈ hs.getD a []) (o : ∀ k, i ∈ hs.getD k [] → k = a) : ∀ {m : Nat}, a < m → tailOf hs i m = a + 1
  | 0, h => absurd h (Nat.not_lt_zero _)
  | m + 1, h => by
    rw [tailOf_succ]
    unfold tailStep
    by_cases e : m = a
    · subst e
      rw [if_pos ha]
    · rw [if_neg (fun c => e (o m c))]
      exact tailOf_only ha o (by omega)
/-- without a bar the drawing tells the order -/
theorem clo_arcs {n : Nat} {X : Nat → Nat → Bool} {r : Nat → Nat} (S : Strict n X r) (N : NoFault n (upp n X)) : (arcsOf n (upp n X)).length = n ∧ ∀ i j, i < n → j < n → cloK (byArcs (arcsOf n (upp n X))) n i j = X i j := by
  have ln : (arcsOf n (upp n X)).length = n := by unfold arcsOf; simp
  refine ⟨ln, fun i j _ _ => ?_⟩
  generalize hhs : headsOf (upp n X) n = hs
  have nd : hs.Nodup := by rw [← hhs]; exact headsOf_nd _ _
  have at_ : ∀ i, i < n → (arcsOf n (upp n X)).getD i (0, 0) = (tailOf hs i hs.length, headOf hs (upp n X i)) := fun i hi => by
    unfold arcsOf
    simp [hi, arcAt, hhs]
  have from_ : ∀ k, k < hs.length → ∃ a, a < n ∧ hs.getD k [] = upp n X a := fun k hk => by
    have e : hs.getD k [] = hs[k] := by simp [hk]
    have hm : hs[k] ∈ headsOf (upp n X) n := by rw [hhs]; exact List.getElem_mem hk
    obtain ⟨_, a, ha, h⟩ := headsOf_from _ _ _ hm
    exact ⟨a, ha, by rw [e, h]⟩
  have out : ∀ k i, i ∈ hs.getD k [] → k < hs.length := fun k i h => by
    rcases Nat.lt_or_ge k hs.length with h1 | h1
    · exact h1
    · have e : hs.getD k [] = [] := by simp [h1]
      rw [e] at h
      cases h
  have only : ∀ j a b, j ∈ hs.getD a [] → j ∈ hs.getD b [] → a = b := fun j a b h1 h2 => by
    have la := out _ _ h1
    have lb := out _ _ h2
    obtain ⟨x, hx, ex⟩ := from_ a la
    obtain ⟨y, hy, ey⟩ := from_ b lb
    have e := upp_eq N hx hy (by rw [← ex]; exact h1) (by rw [← ey]; exact h2)
    have e2 : hs[a] = hs[b] := by
      have ea : hs.getD a [] = hs[a] := by simp [la]
      have eb : hs.getD b [] = hs[b] := by simp [lb]
      rw [← ea, ← eb, ex, ey, e]
    exact (List.getElem_inj nd).mp e2
  -- the arcs' relation is the relation of covers
  have rel : ∀ a b, a < n → b < n → (headOf hs (upp n X a) = tailOf hs b hs.length ↔ cov n X a b = true) := fun a b ha hb => by
    have tl : tailOf hs b hs.length ≤ hs.length := (tailOf_max hs b hs.length).2.1
    by_cases ne : upp n X a = []
    · unfold headOf
      rw [if_pos ne]
      constructor
      · intro h; omega
      · intro h
        have := mem_upp.mpr ⟨hb, h⟩
        rw [ne] at this
        cases this
    · unfold headOf
      rw [if_neg ne]
      have hm : upp n X a ∈ hs := by rw [← hhs]; exact mem_headsOf _ ha ne
      have hlt : hs.idxOf (upp n X a) < hs.length := List.idxOf_lt_length_of_mem hm
      have hat : hs.getD (hs.idxOf (upp n X a)) [] = upp n X a := by
        have e : hs.getD (hs.idxOf (upp n X a)) [] = hs[hs.idxOf (upp n X a)] := by simp [hlt]
        rw [e]
        exact List.getElem_idxOf hlt
      constructor
      · intro h
        refine Classical.byContradiction fun c => ?_
        by_cases some_ : ∃ k, b ∈ hs.getD k []
        · obtain ⟨k, hk⟩ := some_
          rw [tailOf_only hk (fun k' h' => only b k' k h' hk) (out _ _ hk)] at h
          have : k = hs.idxOf (upp n X a) := by omega
          rw [this, hat] at hk
          exact c (mem_upp.mp hk).2
        · rw [tailOf_none (fun k _ h' => some_ ⟨k, h'⟩)] at h
          omega
      · intro h
        have hk : b ∈ hs.getD (hs.idxOf (upp n X a)) [] := by rw [hat]; exact mem_upp.mpr ⟨hb, h⟩
        rw [tailOf_only hk (fun k' h' => only b k' _ h' hk) hlt]
        omega
  have hb : Below n (byArcs (arcsOf n (upp n X))) := by
    have := byArcs_below (arcsOf n (upp n X))
    rwa [ln] at this
  have inP : ∀ a b, InP (byArcs (arcsOf n (upp n X))) a b ↔ cov n X a b = true := fun a b => by
    unfold InP byArcs
    rw [mem_grid, ln]
    constructor
    · rintro ⟨ha, hb, h⟩
      have h := of_decide_eq_true h
      unfold sn fs at h
      rw [at_ a ha, at_ b hb] at h
      exact (rel a b ha hb).mp h
    · intro h
      obtain ⟨ha, hb⟩ := S.lt a b (cov_iff.mp h).1
      refine ⟨ha, hb, decide_eq_true ?_⟩
      unfold sn fs
      rw [at_ a ha, at_ b hb]
      exact (rel a b ha hb).mpr h
  exact (clo_told S (ks := byArcs (arcsOf n (upp n X))) (fun p hp => (cov_iff.mp ((inP p.1 p.2).mp hp)).1) (fun a b _ _ h => (inP a b).mpr h)).2 i j
theorem strict_congr {n : Nat} {X : Nat → Nat → Bool} {r : Nat → Nat} (S : Strict n X r) (i : Nat) (_ : i < n) : X i i = false := S.irr i
/-! ### the text of a drawing -/
theorem nat_text (a : Nat) (h : a < 1000) : (PyData.shown (iD a)).length ≤ 4 := by
  show (Str.ofString (toString (a : Int))).length ≤ 4
  rw [PySem.ofString_length]
  exact int_text_length_le10 (k := 3) (by decide) (by omega)
theorem tup_text (ts : List Str) : (tupleText ts).length ≤ piled ts + 3 := by
  unfold tupleText
  rw [strLen_append, strLen_append]
  have e1 : ((("(" : String) : Str)).length = 1 := rfl
  have e3 : (((if ts.length == 1 then ",)" else ")" : String) : Str)).length ≤ 2 := by split <;> decide
  rw [e1]
  by_cases h : ts = []
  · subst h
    have : (Str.join ", " []).length = 0 := rfl
    omega
  · have := join_length_add ts h
    omega
theorem pair_text (p : Nat × Nat) (h1 : p.1 < 1000) (h2 : p.2 < 1000) : (PyData.shown (pD p)).length ≤ 20 := by
  show (tupleText [PyData.shown (iD p.1), PyData.shown (iD p.2)]).length ≤ 20
  have h := tup_text [PyData.shown (iD p.1), PyData.shown (iD p.2)]
  rw [piled_cons, piled_cons, piled_nil] at h
  have a := nat_text p.1 h1
  have b := nat_text p.2 h2
  omega
theorem arcs_small {n : Nat} {U : Nat → List Nat} (hn : n ≤ 100) : ∀ p ∈ arcsOf n U, p.1 < 1000 ∧ p.2 < 1000 := fun p hp => by
  unfold arcsOf at hp
  obtain ⟨i, _, rfl⟩ := List.mem_map.mp hp
  have h1 := headsOf_len U n
  have h2 := (tailOf_max (headsOf U n) i (headsOf U n).length).2.1
  unfold arcAt
  refine ⟨by show tailOf _ _ _ < 1000; omega, ?_⟩
  show headOf _ _ < 1000
  unfold headOf
  split
  · omega
  · have : (headsOf U n).idxOf (U i) ≤ (headsOf U n).length := List.idxOf_le_length
    omega
theorem arcs_text (ps : List (Nat × Nat)) (h : ∀ p ∈ ps, p.1 < 1000 ∧ p.2 < 1000) : piled (PyData.shownAll (psL ps)) ≤ ps.length * 22 := by
  induction ps with
  | nil => exact Nat.le_refl _
  | cons p ps ih =>
    have := ih fun q hq => h q (List.mem_cons_of_mem _ hq)
    show piled (PyData.shown (pD p) :: PyData.shownAll (psL ps)) ≤ _
    rw [piled_cons, List.length_cons, Nat.succ_mul]
    obtain ⟨h1, h2⟩ := h p List.mem_cons_self
    have := pair_text p h1 h2
    omega
/-- what repr asks of what is shown -/
structure Shows (d : PyData) : Prop where
  s : d.showable = true
  n : d.hasDict = false
  p : d.depth ≤ 20
  z : d.shown.length ≤ sizeLine
theorem arcs_facts (ps : List (Nat × Nat)) (h : ∀ p ∈ ps, p.1 < 1000 ∧ p.2 < 1000) : PyData.showableAll (psL ps) = true ∧ PyData.hasDictAll (psL ps) = false ∧ PyData.depthAll (psL ps) ≤ 3 := by
  induction ps with
  | nil => exact ⟨rfl, rfl, Nat.zero_le _⟩
  | cons p ps ih =>
    obtain ⟨i1, i2, i3⟩ := ih fun q hq => h q (List.mem_cons_of_mem _ hq)
    obtain ⟨h1, h2⟩ := h p List.mem_cons_self
    have lg : ∀ a : Nat, a < 1000 → PyData.showable (iD a) = true := fun a ha => by
      show decide (((a : Int).natAbs).log2 < 1920) = true
      rw [Int.natAbs_natCast]
      have hl : a.log2 ≤ a := Nat.log2_le_self a
      exact decide_eq_true (by omega)
    refine ⟨?_, ?_, ?_⟩
    · show (PyData.showable (pD p) && PyData.showableAll (psL ps)) = true
      rw [i1, Bool.and_true]
      show (PyData.showable (iD p.1) && (PyData.showable (iD p.2) && true)) = true
      rw [lg _ h1, lg _ h2]
      rfl
    · show (PyData.hasDict (pD p) || PyData.hasDictAll (psL ps)) = false
      rw [i2, Bool.or_false]
      rfl
    · show PyData.depthAll (pD p :: psL ps) ≤ 3
      rw [PyData.depthAll]
      refine Nat.max_le.mpr ⟨?_, i3⟩
      show PyData.depth (.tuple [iD p.1, iD p.2]) ≤ 3
      have := depth_isL [p.1, p.2]
      rw [PyData.depth]
      have e : isL [p.1, p.2] = [iD p.1, iD p.2] := rfl
      rw [e] at this
      omega
theorem arcs_shows {ps : List (Nat × Nat)} (hn : ps.length ≤ 100) (h : ∀ p ∈ ps, p.1 < 1000 ∧ p.2 < 1000) : Shows (.tuple (psL ps)) ∧ Shows (.tuple [.bool true, .tuple (psL ps)]) := by
  obtain ⟨i1, i2, i3⟩ := arcs_facts ps h
  have ht := arcs_text ps h
  have h1 := tup_text (PyData.shownAll (psL ps))
  have e1 : (PyData.shown (.tuple (psL ps))).length ≤ 3000 := by
    show (tupleText (PyData.shownAll (psL ps))).length ≤ 3000
    omega
  have d1 : PyData.depth (.tuple (psL ps)) ≤ 10 := by rw [PyData.depth]; omega
  refine ⟨⟨i1, i2, by omega, sz (by omega)⟩, ⟨?_, ?_, ?_, ?_⟩⟩
  · show (true && (PyData.showable (.tuple (psL ps)) && true)) = true
    rw [show PyData.showable (.tuple (psL ps)) = true from i1]
    rfl
  · show (false || (PyData.hasDict (.tuple (psL ps)) || false)) = false
    rw [show PyData.hasDict (.tuple (psL ps)) = false from i2]
    rfl
  · rw [PyData.depth, PyData.depthAll, PyData.depthAll, PyData.depthAll]
    have : PyData.depth (.bool true) ≤ 1 := by rw [PyData.depth]; omega
    omega
  · refine sz ?_
    show (tupleText [PyData.shown (.bool true), PyData.shown (.tuple (psL ps))]).length ≤ 1000000
    have h := tup_text [PyData.shown (.bool true), PyData.shown (.tuple (psL ps))]
    rw [piled_cons, piled_cons, piled_nil] at h
    have : (PyData.shown (.bool true)).length = 4 := rfl
    omega
end K11
set_option maxHeartbeats 4000000

/-! B23: the law. -/
namespace K11
open PySem PySem.Spec PyProof.Rows L2
theorem Stm.sql0 {K : PySem.W.Frag} {H H1 H2 : Hp} {s a : Addr} {xs : List V} (h : SqL K H a xs) (n : H s = none) (e : Same H H1) (g : Stm s H1 H2) : SqL K H2 a xs := by
  rcases h with (h | ⟨o, h⟩) | h
  · exact .inl (.inl (g.keep _ _ (ne_of_none h n) (e _ _ h)))
  · exact .inl (.inr ⟨o, g.keep _ _ (ne_of_none h n) (e _ _ h)⟩)
  · exact .inr h
theorem Stm.other {H H1 H2 : Hp} {s z : Addr} (a : Stm s H H1) (n : H1 z = none) {H3 : Hp} (e : Same H1 H2) (g : Stm z H2 H3) : Stm s H H3 := by
  obtain ⟨x, c, m, hs⟩ := a.st
  exact ⟨fun b o nb h => g.keep _ _ (ne_of_none (a.keep b o nb h) n) (e _ _ (a.keep b o nb h)), x, c, m, g.keep _ _ (ne_of_none hs n) (e _ _ hs)⟩
theorem made_same {H : Hp} {x dx : Addr} {o1 o2 : HO} (hx : H x = none) (hd : H dx = none) : Same H (upd (upd H dx o1) x o2) := fun b u h => by
  rw [upd_ne (ne_of_none h hx), upd_ne (ne_of_none h hd)]
  exact h
section
variable {P : Program} {w : World} {K : PySem.W.Frag} {mg : Str → Option Value} {base : Heap} {C : Addr}
abbrev s_law : Stmt := topS 101
abbrev N_law : List Str := ["_law_script", "_law_stream_here", "_law_table", "_law_planted", "_law_size", "_law_pairs_here", "_law_low", "_law_high", "_law_order", "_law_told_here", "_law_again"]
theorem sc_law : FnScope N_law ["_law_script"] (defScope s_law) := ⟨rfl, rfl, rfl, by decide +kernel, rfl, by decide +kernel, by decide +kernel⟩
def spLaw (K : PySem.W.Frag) : Sp := fun vs H Q _ => ∃ (a : Addr) (ns : List Int), vs = [.ref a] ∧ SqL K H a (ns.map V.int) ∧ ∀ H', Q (.bl true) H'
/-- the law between the draws -/
def LawSt (K : PySem.W.Frag) (H1 : Hp) (a s : Addr) (σ : L2.St) (H' : Hp) : Prop := ∃ L n X r pl v4 v5 v6 v7, σ = [some (.ref a), some (.ref s), some (.ref L), some (.bl pl), v4, v5, v6, v7, none, none, none] ∧ Stm s H1 H' ∧ Dp K H' (.ref L) (TabD n X) ∧ Strict n X r ∧ n ≤ 30 ∧ (pl = true → NoFault n (upp n X))
theorem law_body (T : Blt mg)
    (d__law_cell : Df P w K mg base 1 "_law_cell" (spCell K)) (d__law_stream : Df P w K mg base 1 "_law_stream" spStream) (d__law_any_order : Df P w K mg base 11 "_law_any_order" (spOrder K)) (d__law_draw : Df P w K mg base 1 "_law_draw" spDraw)
    (d__law_by_arcs : Df P w K mg base 1 "_law_by_arcs" (spBy K byArcs)) (d__law_any_arcs : Df P w K mg base 2 "_law_any_arcs" (spArcs K)) (d__law_closed : Df P w K mg base 1 "_law_closed" (spClosed K)) (d_Order : Dk P w K mg base 3 "Order" C (spInit C K)) (d__law_told : Df P w K mg base 3 "_law_told" (spTold K))
    (d_draw_arcs : Df P w K mg base 5 "draw_arcs" (spDrawArcs C K)) (d_draw : Df P w K mg base 6 "draw" (spDraw2 C K)) (d__law_right : Df P w K mg base 5 "_law_right" (spRight K)) (d__law_has_bar : Df P w K mg base 5 "_law_has_bar" (spHasBar K)) (d__law_arcs_of : Df P w K mg base 3 "_law_arcs_of" (spArcsOf K))
    (f : Addr) (cdv : Value) (A : Around) (outer : List Env) (s₀ : Shared) (H : Hp) (vs : List V) (Q : VK) (E : XK) (hr : Room 11 (A.deeper (envOfC "law" (defScope s_law) s₀.heap.objs.size f cdv))) (hgu : (A.deeper (envOfC "law" (defScope s_law) s₀.heap.objs.size f cdv)).guards = some []) (h : spLaw K vs H Q E) :
    ∃ t, PSs (cxOf CX0 P w K mg base N_law "law" (defScope s_law) f cdv A outer s₀ H E).nox (defBody s_law) t ∧ t { nx := fun _ H' => Q .non H', rt := Q } (start N_law vs) H := by
  obtain ⟨a, ns, rfl, hS, q⟩ := h
  refine ⟨_, pss_cons (ps_set (i := 1) sc_law.nd rfl (.inl rfl) (pe_df d__law_stream hr (by decide) rfl (pa_cons (pe_df d__law_cell hr (by decide) rfl (pa_cons (pv 0) (pa_cons (pe_int) pa_nil))) pa_nil)))
      (pss_cons (ps_set (i := 2) sc_law.nd rfl (.inl rfl) (pe_df d__law_any_order hr (by decide) rfl (pa_cons (pv 1) (pa_cons (pe_int) pa_nil))))
      (pss_cons (ps_set (i := 3) sc_law.nd rfl (.inl rfl) (pe_bl))
      (pss_cons (ps_if (pt_cmpR op_eq (pe_df d__law_draw hr (by decide) rfl (pa_cons (pv 1) (pa_cons (pe_int) pa_nil))) (pe_int) (nomark _))
      (pss_cons (ps_set (i := 4) sc_law.nd rfl (.inl rfl) (pe_op op_add (pe_int) (pe_df d__law_draw hr (by decide) rfl (pa_cons (pv 1) (pa_cons (pe_int) pa_nil)))))
      (pss_cons (ps_set (i := 5) sc_law.nd rfl (.inl rfl) (pe_df d__law_by_arcs hr (by decide) rfl (pa_cons (pe_df d__law_any_arcs hr (by decide) rfl (pa_cons (pv 1) (pa_cons (pv 4) pa_nil))) pa_nil)))
      (pss_cons (ps_set (i := 3) sc_law.nd rfl (.inl rfl) (pe_bl))
      (pss_cons (ps_set (i := 2) sc_law.nd rfl (.inl rfl) (pe_df d__law_closed hr (by decide) rfl (pa_cons (pv 4) (pa_cons (pv 5) pa_nil))))
      (pss_cons (ps_set (i := 6) sc_law.nd rfl (.inl rfl) (pe_df d__law_draw hr (by decide) rfl (pa_cons (pv 1) (pa_cons (pv 4) pa_nil))))
      (pss_cons (ps_set (i := 7) sc_law.nd rfl (.inl rfl) (pe_df d__law_draw hr (by decide) rfl (pa_cons (pv 1) (pa_cons (pv 4) pa_nil))))
      (pss_one (ps_if (PW.pt (pw_and (pt_cmpR op_eq (pe_df d__law_draw hr (by decide) rfl (pa_cons (pv 1) (pa_cons (pe_int) pa_nil))) (pe_int) (nomark _)) (pw_and (pt_cmpR op_ne (pv 6) (pv 7) (nomark _)) (pw_and1 (pt_not (pt_val (pe_ix (ixK (K := K) rfl) (pe_ix (ixK (K := K) rfl) (pv 2) (pv 7) (fun _ _ => rfl)) (pv 6) (fun _ _ => rfl))))))))
      (pss_cons (ps_set (i := 2) sc_law.nd rfl (.inl rfl) (pe_df d__law_closed hr (by decide) rfl (pa_cons (pv 4) (pa_cons (pe_op op_cat (pv 5) (pe_lst (pa_cons (pe_tup (pa_cons (pv 6) (pa_cons (pv 7) pa_nil))) pa_nil))) pa_nil))))
      (pss_one (ps_set (i := 3) sc_law.nd rfl (.inl rfl) (pe_bl))))
      (pss_nil)))))))))
      (pss_nil))
      (pss_cons (ps_if (pt_cmpR op_eq (pe_df d__law_draw hr (by decide) rfl (pa_cons (pv 1) (pa_cons (pe_int) pa_nil))) (pe_int) (nomark _))
      (pss_cons (ps_set (i := 2) sc_law.nd rfl (.inl rfl) (pe_df d__law_closed hr (by decide) rfl (pa_cons (pe_int) (pa_cons (pe_df d__law_by_arcs hr (by decide) rfl (pa_cons (pe_df d__law_any_arcs hr (by decide) rfl (pa_cons (pe_df d__law_stream hr (by decide) rfl (pa_cons (pe_df d__law_cell hr (by decide) rfl (pa_cons (pv 0) (pa_cons (pe_int) pa_nil))) pa_nil)) (pa_cons (pe_int) pa_nil))) pa_nil)) pa_nil))))
      (pss_one (ps_set (i := 3) sc_law.nd rfl (.inl rfl) (pe_bl))))
      (pss_nil))
      (pss_cons (ps_set (i := 8) sc_law.nd rfl (.inl rfl) (pe_dk d_Order hr (by decide) rfl (pa_cons (pe_callB (lenK (K := K) rfl) rfl T.b_len (by decide +kernel) (pa_cons (pv 2) pa_nil)) (pa_cons (pe_df d__law_told hr (by decide) rfl (pa_cons (pv 1) (pa_cons (pv 2) pa_nil))) pa_nil))))
      (pss_cons (ps_set (i := 9) sc_law.nd rfl (.inl rfl) (pe_df d_draw_arcs hr (by decide) rfl (pa_cons (pv 8) pa_nil)))
      (pss_cons (ps_set (i := 10) sc_law.nd rfl (.inl rfl) (pe_df d_draw hr (by decide) rfl (pa_cons (pv 8) (pa_cons (pe_str) pa_nil))))
      (pss_cons (ps_if (PW.pt (pw_or (pt_not (pt_val (pe_df d__law_right hr (by decide) rfl (pa_cons (pv 2) (pa_cons (pe_str) (pa_cons (pv 10) pa_nil)))))) (pw_or1 (PW.pt (pw_and (pt_val (pe_ix (ixK (K := K) rfl) (pv 9) (pe_int) (fun _ _ => rfl))) (pw_and1 (pt_cmpR op_ne (pe_callB (call_reprD hr hgu) rfl T.b_repr (by decide +kernel) (pa_cons (pv 10) pa_nil)) (pe_callB (call_reprD hr hgu) rfl T.b_repr (by decide +kernel) (pa_cons (pv 9) pa_nil)) (nomark _))))))))
      (pss_one (ps_ret (pe_bl)))
      (pss_nil))
      (pss_cons (ps_if (PW.pt (pw_or (pt_not (pt_val (pe_df d__law_right hr (by decide) rfl (pa_cons (pv 2) (pa_cons (pe_str) (pa_cons (pv 9) pa_nil)))))) (pw_or1 (PW.pt (pw_and (pt_val (pv 3)) (pw_and1 (pt_not (pt_val (pe_ix (ixK (K := K) rfl) (pv 9) (pe_int) (fun _ _ => rfl))))))))))
      (pss_one (ps_ret (pe_bl)))
      (pss_nil))
      (pss_cons (ps_if (PW.pt (pw_and (pt_not (pt_val (pv 3))) (pw_and (pt_cmpR op_lt (pe_callB (lenK (K := K) rfl) rfl T.b_len (by decide +kernel) (pa_cons (pv 2) pa_nil)) (pe_int) (nomark _)) (pw_and1 (pt_cmpR op_ne (pe_ix (ixK (K := K) rfl) (pv 9) (pe_int) (fun _ _ => rfl)) (pe_not (pe_df d__law_has_bar hr (by decide) rfl (pa_cons (pv 2) (pa_cons (pe_str) pa_nil)))) (nomark _))))))
      (pss_one (ps_ret (pe_bl)))
      (pss_nil))
      (pss_one (ps_ret (pe_or (pe_not (pe_ix (ixK (K := K) rfl) (pv 9) (pe_int) (fun _ _ => rfl))) (pe_one (pe_cmpR op_eq (pe_callB (call_reprD hr hgu) rfl T.b_repr (by decide +kernel) (pa_cons (pe_ix (ixK (K := K) rfl) (pv 9) (pe_int) (fun _ _ => rfl)) pa_nil)) (pe_callB (call_reprD hr hgu) rfl T.b_repr (by decide +kernel) (pa_cons (pe_df d__law_arcs_of hr (by decide) rfl (pa_cons (pv 2) pa_nil)) pa_nil)) (nomark _)))))))))))))))), ?_⟩
  refine ⟨_, rfl, a, ns, 0, rfl, hS, fun z => ⟨z, rfl, fun s H1 ns1 e1 hs => ?_⟩⟩
  -- any_order
  refine ⟨_, rfl, s, rfl, hs, fun L0 n0 ps0 H2 nL0 s2 hT0 A0 hn0 => ?_⟩
  obtain ⟨r0, S0⟩ := strict_clo A0
  refine ⟨_, rfl, s, 2, rfl, s2.st, by decide, by decide, fun d3 H3 hd3 s3 => ⟨rfl, _, rfl, ?_⟩⟩
  have s13 := s2.trans s3
  refine if_go (LawSt K H1 a s) (fun c go => ?_) (fun c => ⟨L0, n0, _, r0, false, none, none, none, none, rfl, s13, Stm.dp s3 s2.st _ _ (n3_TabD _ _) hT0, S0, by omega, fun h => by cases h⟩) (fun σ' H' G => ?_)
  · clear c
    refine ⟨_, rfl, s, 9, rfl, s13.st, by decide, by decide, fun d4 H4 hd4 s4 => ⟨_, _, rfl, rfl, ?_⟩⟩
    have s14 := s13.trans s4
    refine ⟨_, rfl, _, rfl, s, 1 + d4, rfl, s14.st, by omega, fun ar ps H5 nar s5 hL lo ev => ?_⟩
    have s15 := s14.trans s5
    have bl := byArcs_len ps
    have nn : ps.length * ps.length ≤ 9 * 9 := Nat.mul_le_mul (by omega) (by omega)
    refine ⟨ar, ps, rfl, hL.dp, by omega, fun r H6 nr s6 hL6 => ?_⟩
    have s16 := s15.then s6
    have nrs := s15.st.ne nr
    have A6 := acy_arcs lo ev
    refine ⟨_, rfl, _, rfl, 1 + d4, r, byArcs ps, rfl, hL6.dp, by omega, by omega, A6.1, fun L7 H7 nL7 s7 hT7 => ?_⟩
    have s17 := s16.then s7
    refine ⟨_, rfl, _, rfl, s, 1 + d4, rfl, s17.st, by omega, by omega, fun lw H8 hlw s8 => ?_⟩
    refine ⟨_, rfl, _, rfl, s, 1 + d4, rfl, (s17.trans s8).st, by omega, by omega, fun hg H9 hhg s9 => ?_⟩
    refine ⟨_, rfl, s, 3, rfl, ((s17.trans s8).trans s9).st, by decide, by decide, fun d10 H10 hd10 s10 => ?_⟩
    have s710 := (s8.trans s9).trans s10
    have s110 := s17.trans s710
    obtain ⟨r7, S7⟩ := strict_clo A6
    have hT10 := Stm.dp s710 s17.st _ _ (n3_TabD _ _) hT7
    have plant : NoFault (1 + d4) (upp (1 + d4) (cloK (byArcs ps) (1 + d4))) := by
      rw [← lo]
      exact planted ev
    have fin : ∀ {v4 v5 v6 v7 : Option V}, LawSt K H1 a s [some (.ref a), some (.ref s), some (.ref L7), some (.bl true), v4, v5, v6, v7, none, none, none] H10 := ⟨L7, 1 + d4, _, r7, true, _, _, _, _, rfl, s110, hT10, S7, by omega, fun _ => plant⟩
    refine ⟨rfl, _, rfl, ite2 (fun _ => ⟨_, rfl, _, rfl, rfl, _, rfl, ite2 (fun c2 => ?_) (fun _ => ite2 (fun c => by cases c) (fun _ => go _ _ fin))⟩) (fun _ => ite2 (fun c => by cases c) (fun _ => go _ _ fin))⟩
    rw [dec_int] at c2
    have ne : lw ≠ hg := by simpa using c2
    refine tabix (i := hg) (j := lw) hT10 hhg hlw rfl rfl rfl ⟨_, rfl, ite2 (fun c3 => ?_) (fun _ => go _ _ fin)⟩
    have c3 : cloK (byArcs ps) (1 + d4) hg lw = false := by simpa using c3
    have hL10 : LA K H10 r (psL (byArcs ps)) := (hL6.same s7).stm s710 s17.st nrs (noLA_psL _)
    refine ⟨_, rfl, _, rfl, _, rfl, _, rfl, sz (by show 2 ≤ 1000000; decide), fun tp ntp => ?_⟩
    ktr_call (H11 e11 h11) ntp
    refine ⟨sz (by show 1 ≤ 1000000; decide), fun l nl => ?_⟩
    ktr_call (H12 e12 h12) nl
    obtain ⟨ys, y1, y2⟩ := hL10.same (e11.trans e12)
    have ly := dpa_len y2
    rw [psL_len] at ly
    refine ⟨r, l, ys, _, rfl, rfl, y1, h12, sz (by rw [List.length_singleton]; omega), fun p np => ?_⟩
    ktr_call (H13 e13 h13) np
    have A13 := acy_more A6 hlw hhg ne c3
    have hp13 : Dp K H13 (.ref p) (.list (psL (byArcs ps ++ [(lw, hg)]))) := by
      rw [psL_snoc]
      exact .lst (SqL.of h13) (dpa_app (Dp.sameAll e13 _ _ y2) (dpa_one (dp_pD_mk (p := (lw, hg)) (e13 _ _ (e12 _ _ h11)))))
    refine ⟨1 + d4, p, byArcs ps ++ [(lw, hg)], rfl, hp13, by omega, by rw [List.length_append, List.length_singleton]; omega, A13.1, fun L14 H14 nL14 s14' hT14 => ?_⟩
    obtain ⟨r14, S14⟩ := strict_clo A13
    refine go _ _ ⟨L14, 1 + d4, _, r14, false, _, _, _, _, rfl, (s110.then ((e11.trans e12).trans e13)).then s14', hT14, S14, by omega, fun h => by cases h⟩
  obtain ⟨L, n, X, r, pl, v4, v5, v6, v7, rfl, s15, hT, SX, hn, hpl⟩ := G
  refine ⟨_, rfl, s, 10, rfl, s15.st, by decide, by decide, fun d16 H16 hd16 s16 => ⟨rfl, _, rfl, ?_⟩⟩
  have s116 := s15.trans s16
  refine if_go (LawSt K H1 a s) (fun c go => ?_) (fun c => ⟨L, n, X, r, pl, _, _, _, _, rfl, s116, Stm.dp s16 s15.st _ _ (n3_TabD _ _) hT, SX, hn, hpl⟩) (fun σ' H' G => ?_)
  · clear c
    refine ⟨_, rfl, a, ns, 1, rfl, Stm.sql0 hS ns1 e1 s116, fun z => ⟨z, rfl, fun z2 H17 nz2 e17 hz2 => ?_⟩⟩
    refine ⟨z2, 30, rfl, hz2, by decide, fun ar ps H18 nar s18 hL lo ev => ?_⟩
    have bl := byArcs_len ps
    have nn : ps.length * ps.length ≤ 30 * 30 := Nat.mul_le_mul (by omega) (by omega)
    refine ⟨ar, ps, rfl, hL.dp, by omega, fun r H19 nr s19 hL19 => ?_⟩
    have A19 := acy_arcs lo ev
    refine ⟨30, r, byArcs ps, rfl, hL19.dp, by decide, by omega, A19.1, fun L20 H20 nL20 s20 hT20 => ?_⟩
    obtain ⟨r20, S20⟩ := strict_clo A19
    refine go _ _ ⟨L20, 30, _, r20, true, _, _, _, _, rfl, ((s116.other nz2 e17 s18).then s19).then s20, hT20, S20, by decide, fun _ => ?_⟩
    rw [← lo]
    exact planted ev
  clear hT SX hn hpl s15 s16 s116
  obtain ⟨L, n, X, r, pl, v4, v5, v6, v7, rfl, s17, hT, SX, hn, hpl⟩ := G
  obtain ⟨rows, hrows, lrows, _⟩ := tab_row hT
  have nn : n * n ≤ 30 * 30 := Nat.mul_le_mul hn hn
  -- order = Order(len(table), told(stream, table))
  refine ⟨_, rfl, L, rows, rfl, .inl hrows, _, rfl, _, rfl, s, L, n, X, rfl, s17.st, hT, by omega, fun kr ks H18 nkr s18 hks k1 k2 k3 => ?_⟩
  intro x dx nx ndx nxd
  have em : Same H18 (upd (upd H18 dx (.own x)) x (.ins C dx [])) := made_same nx ndx
  have hox : (upd (upd H18 dx (.own x)) x (.ins C dx [])) x = some (.ins C dx []) := upd_same
  obtain ⟨AK, cK⟩ := clo_told SX (fun p hp => (k1 p hp).2.2) k2
  refine ⟨x, kr, dx, n, ks, by rw [lrows]; rfl, hox, (hks.same em).dp, hn, by omega, AK, fun H19 s19 hO => ⟨rfl, ?_⟩⟩
  have s1819 : Same H18 H19 := fun b u h => s19 b u (ne_of_none h nx) (em b u h)
  have hT19 : Dp K H19 (.ref L) (TabD n X) := Dp.same s1819 _ _ (Stm.dp s18 s17.st _ _ (n3_TabD _ _) hT)
  have hU : ucM n (upM n ks) = upp n X := funext fun i => ucM_upp AK.1 cK i
  refine ⟨_, rfl, x, n, upM n ks, rfl, hO, fun t1 H20 s20 hv1 => ?_⟩
  refine ⟨_, rfl, x, n, upM n ks, rfl, hO.same s20, fun t2 H21 s21 hv2 => ?_⟩
  rw [hU] at hv1 hv2
  have hT21 : Dp K H21 (.ref L) (TabD n X) := Dp.same (s20.trans s21) _ _ hT19
  rcases hv1 with ⟨nf, hd1⟩ | ⟨i, j, k, l, hF, hd1⟩
  · rcases hv2 with ⟨_, hd2⟩ | ⟨i, j, k, l, hF, _⟩
    · -- a drawing
      obtain ⟨ln, cl⟩ := clo_arcs SX nf
      have hd1 := Dp.same s21 _ _ hd1
      obtain ⟨sh1, sh2⟩ := arcs_shows (ps := arcsOf n (upp n X)) (by omega) (arcs_small (by omega))
      obtain ⟨a1, xs1, rfl, _, _⟩ := dp_tup hd1
      obtain ⟨a2, xs2, rfl, _, _⟩ := dp_tup hd2
      -- test 1
      refine ⟨_, rfl, _, rfl, L, a2, n, X, rfl, hT21, by omega, .inl ⟨_, hd2, ln, cl, fun i _ => SX.irr i, fun H22 s22 => ⟨_, rfl, ite2 (fun c => by cases c) (fun _ => ?_)⟩⟩⟩
      have hd1 := Dp.same s22 _ _ hd1
      have hd2 := Dp.same s22 _ _ hd2
      have hT22 := Dp.same s22 _ _ hT21
      obtain ⟨x1, y1, hs1, hx1, hy1⟩ := tup2_at hd1
      cases dp_bl hx1
      refine ⟨_, rfl, .inr (.inl ⟨a1, _, (0 : Nat), _, rfl, rfl, hs1, atn (i := 0) rfl, true, rfl, ite2 (fun _ => ?_) (fun c => absurd rfl c)⟩)⟩
      refine ⟨_, rfl, a2, _, rfl, hd2, sh2.s, sh2.n, sh2.p, sh2.z, _, rfl, a1, _, rfl, hd1, sh2.s, sh2.n, sh2.p, sh2.z, rfl, _, rfl, ite2 (fun c => ?_) (fun _ => ?_)⟩
      · rw [decide_eq_true rfl] at c
        cases c
      -- test 2
      refine ⟨_, rfl, _, rfl, L, a1, n, X, rfl, hT22, by omega, .inl ⟨_, hd1, ln, cl, fun i _ => SX.irr i, fun H23 s23 => ⟨_, rfl, ite2 (fun c => by cases c) (fun _ => ?_)⟩⟩⟩
      have hd1 := Dp.same s23 _ _ hd1
      have hT23 := Dp.same s23 _ _ hT22
      have hs1 := K11.Same.sqt s23 hs1
      have hy1 := Dp.same s23 _ _ hy1
      have rest : ∀ {D : Ends} {v3 v4 v5 v6 v7 : Option V} {H24 : Hp}, D.rt = Q → Same H23 H24 → tRet (tOrV (tNotV (tOp (rIx K) (tVar 9) (tC (.int 0)))) (tOp rEq (tCB (rRepr K) (tCons (tOp (rIx K) (tVar 9) (tC (.int 1))) tNil)) (tCB (rRepr K) (tCons (tCall (spArcsOf K) [] E0 (tCons (tVar 2) tNil)) tNil)))) D [some (.ref a), some (.ref s), some (.ref L), v3, v4, v5, v6, v7, some (.ref x), some (.ref a1), some (.ref a2)] H24 := by
        intro D v3 v4 v5 v6 v7 H24 eD s24
        have hs1 := K11.Same.sqt s24 hs1
        refine ⟨_, rfl, .inr (.inl ⟨a1, _, (0 : Nat), _, rfl, rfl, hs1, atn (i := 0) rfl, true, rfl, false, rfl, ite2 (fun c => by cases c) (fun _ => ?_)⟩)⟩
        obtain ⟨b1, zs, rfl, _, _⟩ := dp_tup hy1
        refine ⟨_, rfl, .inr (.inl ⟨a1, _, (1 : Nat), _, rfl, rfl, hs1, atn (i := 1) rfl, b1, _, rfl, Dp.same s24 _ _ hy1, sh1.s, sh1.n, sh1.p, sh1.z, ?_⟩)⟩
        refine ⟨_, rfl, L, n, X, rfl, Dp.same s24 _ _ hT23, by omega, fun r25 H25 s25 hd25 => ?_⟩
        refine ⟨r25, _, rfl, hd25, sh1.s, sh1.n, sh1.p, sh1.z, rfl, ?_⟩
        rw [decide_eq_true rfl, eD]
        exact q H25
      refine ⟨_, rfl, pl, rfl, ?_⟩
      cases pl with
      | true =>
        refine ite2 (fun _ => ?_) (fun c => absurd rfl c)
        refine ⟨_, rfl, .inr (.inl ⟨a1, _, (0 : Nat), _, rfl, rfl, hs1, atn (i := 0) rfl, true, rfl, ite2 (fun c => by cases c) (fun _ => ?_)⟩)⟩
        refine ⟨_, rfl, true, rfl, ite2 (fun c => by cases c) (fun _ => ite2 (fun c => by cases c) (fun _ => ?_))⟩
        exact rest (by exact rfl) (.refl _)
      | false =>
        refine ite2 (fun c => by cases c) (fun _ => ite2 (fun c => by cases c) (fun _ => ?_))
        refine ⟨_, rfl, false, rfl, ite2 (fun _ => ?_) (fun c => absurd rfl c)⟩
        obtain ⟨rows2, hrows2, _, _⟩ := tab_row hT23
        refine ⟨_, rfl, L, rows2, rfl, .inl hrows2, _, _, rfl, rfl, _, rfl, ite2 (fun _ => ?_) (fun _ => ite2 (fun c => by cases c) (fun _ => rest (by exact rfl) (.refl _)))⟩
        refine ⟨_, rfl, .inr (.inl ⟨a1, _, (0 : Nat), _, rfl, rfl, hs1, atn (i := 0) rfl, _, rfl, L, n, X, rfl, hT23, by omega, fun b H24 s24 hb => ⟨b, rfl, rfl, _, rfl, ite2 (fun c => ?_) (fun _ => rest (by exact rfl) s24)⟩⟩)⟩
        have : b = false := by
          cases hb0 : b with
          | false => rfl
          | true =>
            obtain ⟨i, j, k, l, hi, hj, hk, hl, hB⟩ := hb.mp hb0
            exact (no_fault_bar nf (bar_fault hi hj hk hl hB)).elim
        subst this
        exact absurd c (by decide)
    · exact (no_fault_bar nf hF).elim
  · rcases hv2 with ⟨nf, _⟩ | ⟨i2, j2, k2, l2, hF2, hd2⟩
    · exact (no_fault_bar nf hF).elim
    · -- four elements
      have hd1 := Dp.same s21 _ _ hd1
      obtain ⟨hi, hj, _⟩ := id hF
      obtain ⟨hk, hl, hB⟩ := fault_bar SX hF
      obtain ⟨hi2, hj2, _⟩ := id hF2
      obtain ⟨hk2, hl2, hB2⟩ := fault_bar SX hF2
      have np : pl = false := by
        cases hp : pl with
        | false => rfl
        | true => exact (no_fault_bar (hpl hp) hF).elim
      subst np
      obtain ⟨a1, xs1, rfl, _, _⟩ := dp_tup hd1
      obtain ⟨a2, xs2, rfl, _, _⟩ := dp_tup hd2
      -- test 1
      refine ⟨_, rfl, _, rfl, L, a2, n, X, rfl, hT21, by omega, .inr ⟨i2, j2, k2, l2, hd2, hi2, hj2, hk2, hl2, fun H22 s22 => ⟨_, rfl, ?_⟩⟩⟩
      rw [hB2]
      refine ite2 (fun c => by cases c) (fun _ => ?_)
      have hd1 := Dp.same s22 _ _ hd1
      have hT22 := Dp.same s22 _ _ hT21
      obtain ⟨x1, y1, hs1, hx1, hy1⟩ := tup2_at hd1
      cases dp_bl hx1
      refine ⟨_, rfl, .inr (.inl ⟨a1, _, (0 : Nat), _, rfl, rfl, hs1, atn (i := 0) rfl, false, rfl, ite2 (fun c => by cases c) (fun _ => ite2 (fun c => by cases c) (fun _ => ?_))⟩)⟩
      -- test 2
      refine ⟨_, rfl, _, rfl, L, a1, n, X, rfl, hT22, by omega, .inr ⟨i, j, k, l, hd1, hi, hj, hk, hl, fun H23 s23 => ⟨_, rfl, ?_⟩⟩⟩
      rw [hB]
      refine ite2 (fun c => by cases c) (fun _ => ?_)
      have hT23 := Dp.same s23 _ _ hT22
      have hs1 := K11.Same.sqt s23 hs1
      refine ⟨_, rfl, false, rfl, ite2 (fun c => by cases c) (fun _ => ite2 (fun c => by cases c) (fun _ => ?_))⟩
      have rest : ∀ {D : Ends} {v3 v4 v5 v6 v7 : Option V} {H24 : Hp}, D.rt = Q → Same H23 H24 → tRet (tOrV (tNotV (tOp (rIx K) (tVar 9) (tC (.int 0)))) (tOp rEq (tCB (rRepr K) (tCons (tOp (rIx K) (tVar 9) (tC (.int 1))) tNil)) (tCB (rRepr K) (tCons (tCall (spArcsOf K) [] E0 (tCons (tVar 2) tNil)) tNil)))) D [some (.ref a), some (.ref s), some (.ref L), v3, v4, v5, v6, v7, some (.ref x), some (.ref a1), some (.ref a2)] H24 := by
        intro D v3 v4 v5 v6 v7 H24 eD s24
        have hs1 := K11.Same.sqt s24 hs1
        refine ⟨_, rfl, .inr (.inl ⟨a1, _, (0 : Nat), _, rfl, rfl, hs1, atn (i := 0) rfl, false, rfl, true, rfl, ite2 (fun _ => ?_) (fun c => absurd rfl c)⟩)⟩
        rw [eD]
        exact q H24
      -- test 3
      refine ⟨_, rfl, false, rfl, ite2 (fun _ => ?_) (fun c => absurd rfl c)⟩
      obtain ⟨rows2, hrows2, _, _⟩ := tab_row hT23
      refine ⟨_, rfl, L, rows2, rfl, .inl hrows2, _, _, rfl, rfl, _, rfl, ite2 (fun _ => ?_) (fun _ => ite2 (fun c => by cases c) (fun _ => rest (by exact rfl) (.refl _)))⟩
      refine ⟨_, rfl, .inr (.inl ⟨a1, _, (0 : Nat), _, rfl, rfl, hs1, atn (i := 0) rfl, _, rfl, L, n, X, rfl, hT23, by omega, fun b H24 s24 hb => ⟨b, rfl, rfl, _, rfl, ite2 (fun c => ?_) (fun _ => rest (by exact rfl) s24)⟩⟩)⟩
      have : b = true := hb.mpr ⟨i, j, k, l, hi, hj, hk, hl, hB⟩
      subst this
      exact absurd c (by decide)
end
end K11
set_option maxHeartbeats 4000000
/-! E1: the law's call, its caller known (what repr asks of the guards). -/
namespace K11
open PySem PySem.Spec PyProof.Rows L2
/-- the script's object -/
def scO (vs : List Value) : Obj := { cls := .type "list", data := .seq vs.toArray }
/-- what is tracked as the law begins: the script, frozen, unless the text has it -/
def scH (K : PySem.W.Frag) (a : Addr) (vs : List Value) (ns : List Int) : Hp := fun b => if b = a ∧ K.lookup a = none then some (.frz (scO vs) (.lst (ns.map V.int))) else none
section
variable {K : PySem.W.Frag} {a : Addr} {vs : List Value} {ns : List Int}
theorem scH_at {b : Addr} {o : HO} (h : scH K a vs ns b = some o) : b = a ∧ K.lookup a = none ∧ o = .frz (scO vs) (.lst (ns.map V.int)) := by
  unfold scH at h
  by_cases c : b = a ∧ K.lookup a = none
  · rw [if_pos c] at h
    exact ⟨c.1, c.2, (Option.some.inj h).symm⟩
  · rw [if_neg c] at h
    cases h
theorem scH_no {b : Addr} (h : b = a → K.lookup a ≠ none) : scH K a vs ns b = none := by
  cases q : scH K a vs ns b with
  | none => rfl
  | some o =>
    obtain ⟨h1, h2, _⟩ := scH_at q
    exact absurd h2 (h h1)
end
section
variable {P : Program} {w : World} {K : PySem.W.Frag} {mg mb : Str → Option Value} {k : Nat} {fa a : Addr} {x : Str} {N : List Str} {sp : Sp} {s : Shared} {vs : List Value} {ns : List Int}
  {qual : Str} {params : Arguments} {body : List Stmt} {scope : Scope} {dvs : List V} {kws : List (Str × V)} {fd : FuncData}
theorem law_run (F : FunD K x qual params body scope dvs kws fa fd) {p : Str} (S : FnScope N [p] scope) (KX : K.In s.heap) (g1 : s.heap.Ns mainGlobals mg) (g2 : s.heap.Ns builtinsNs mb) (g3 : ∀ x : Str, x ≠ "__name__" → mb x = bootBuiltins x) (g4 : s.heap.NoLimit) (g5 : s.gens = #[])
    (ha : s.heap.get? a = some (scO vs)) (hi : IntsAre vs ns) (hl : ns.length ≤ sizeLine) (hr : Room (k + 1) callerA) (hb : ∀ (s : Shared) (u : Value), BindsTo s fd ⟨[u], []⟩ [(p, u)])
    (hsp : ∀ H : Hp, SqL K H a (ns.map V.int) → sp [.ref a] H (fun v _ => v = .bl true) fun _ _ _ => False)
    (run : ∀ (base : Heap), K.In base → base.Ns mainGlobals mg → ∀ (cdv : Value) (H : Hp) (Q : VK) (E : XK), Room k (callerA.deeper (envOfC qual scope s.heap.objs.size fa cdv)) → sp [.ref a] H Q E →
      ∃ t, PSs (cxOf CX0 P w K mg base N qual scope fa cdv callerA [] s H E) body t ∧ t { nx := fun _ H' => Q .non H', rt := Q } (start N [.ref a]) H) :
    codeAny (model P w) callerA (.call (.ref fa) ⟨[.ref a], []⟩) (fun r s' => r = .ok (.ret (.bool true)) ∧ OldK s.heap s'.heap ∧ s'.os = s.os ∧ AllBare s'.gens) s := by
  have rv := vals_ints hi
  have ln := hi.length
  -- the tracked heap
  have hnone : ∀ {b : Addr} {o : Obj}, s.heap.get? b = some o → o ≠ scO vs → scH K a vs ns b = none := fun {b o} e n => scH_no fun eb _ => by
    subst eb
    rw [ha] at e
    exact n (Option.some.inj e).symm
  have keepN : ∀ {b : Addr} {m : Str → Option Value}, s.heap.Ns b m → (hidT s.heap (scH K a vs ns)).Ns b m := by
    rintro b m ⟨o, es, ep, e, d, r⟩
    refine ⟨o, es, ep, hidT_get e (hnone e fun eo => ?_), d, r⟩
    rw [eo] at d
    have d' : (Data.seq vs.toArray) = Data.dict es ep := d
    cases d'
  have kin : K.In (hidT s.heap (scH K a vs ns)) := fun b o e => hidT_get (KX b o e) (scH_no fun eb z => by
    subst eb
    rw [z] at e
    cases e)
  have ok0 : HOk P w (scH K a vs ns) s.heap := fun b u z => by
    obtain ⟨rfl, _, rfl⟩ := scH_at z
    exact ⟨ha, by rw [List.length_map]; exact hl, vs, _, rv, ha⟩
  have md : Mod K mg (hidT s.heap (scH K a vs ns)) := by
    obtain ⟨mc, h1, h2⟩ := g4
    exact ⟨kin, keepN g1, ⟨mb, keepN g2, g3⟩, mc, keepN h1, h2⟩
  have hS : SqL K (scH K a vs ns) a (ns.map V.int) := by
    cases hk : K.lookup a with
    | none => exact .inl (.inr ⟨scO vs, if_pos ⟨rfl, hk⟩⟩)
    | some o =>
      have e := KX a o hk
      rw [ha] at e
      cases e
      exact .inr ⟨_, vs.toArray, _, hk, rfl, rfl, rfl, by rw [List.size_toArray, ln]; exact hl, by simpa using rv⟩
  have e0 : Env0 P w K mg (hidT s.heap (scH K a vs ns)) callerA [] s (scH K a vs ns) :=
    ⟨rfl, md, fun b o e => of_hidT e, Nat.le_of_eq (hidT_size _ _), trivial, fun b hb => absurd (show b ∈ ([] : List Addr) from hb) (by simp), ok0, .of_eq g5⟩
  have hs0 := hsp _ hS
  -- the call
  obtain ⟨oc, od, dV, kV, doc, pm, an, cdv, ct, osl, rfl, lk, hcd, _, _⟩ := F.ex
  have par : ∀ y ∈ [(p, Value.ref a)], scope.names.lookup y.1 = some .local ∨ (scope.names.lookup y.1 = some .cell ∧ ((cellsFrom (s.heap.objs.size + 1) scope.names []).lookup y.1).isSome = true) := fun y hy => by
    rw [List.mem_singleton] at hy
    subst hy
    rcases S.par p List.mem_cons_self with z | z
    · exact .inl z
    · exact .inr ⟨z, PySem.W.cellsFrom_some _ _ _ (.inl z)⟩
  refine codeAny_call_function hr.depth (KX _ _ lk) rfl S.co S.gen rfl (PySem.W.codeRec_of KX hcd) (hb s (.ref a) _ _ _ _ ?_)
  refine wpAny_newFunctionEnv_cells S.kind par fun env ee s1 ic => ?_
  subst ee
  refine ⟨g4.keeps ic.toInCall.keep, codeAny_func ?_⟩
  obtain ⟨t, ht, hq⟩ := run _ kin (keepN g1) cdv _ _ _ (hr.deeper _) hs0
  have I0 := inv_start (E := fun _ _ _ => False) (CX := CX0) S hr.hd e0 (show [V.ref a].length = [p].length from rfl) (.cons rfl .nil) ic
  refine wpAny_mono (ht.run [] s1 _ _ _ I0 hq) (fun fl s' z => ?_) (fun e s' z => wpAny_mono z (fun _ _ q => (show False from q).elim) fun _ _ q => (show False from q).elim)
  have done : ∀ {σ' : L2.St} {H' : Hp}, Inv (cxOf CX0 P w K mg (hidT s.heap (scH K a vs ns)) N qual scope fa cdv callerA [] s (scH K a vs ns) fun _ _ _ => False) [] σ' H' s' →
      OldK s.heap s'.heap ∧ s'.os = s.os ∧ AllBare s'.gens := by
    intro σ' H' J
    refine ⟨OldK.of_keep fun b o e => ?_, J.os, J.bare⟩
    cases q : scH K a vs ns b with
    | none => exact J.base.keep b o e q (fun z => absurd (show b ∈ ([] : List Addr) from z) (by simp)) (fun z => absurd (show b ∈ ([] : List Addr) from z) (by simp))
    | some u =>
      obtain ⟨h1, h2, h3⟩ := scH_at q
      subst h3
      have z2 := J.base.frzs b _ _ q
      obtain ⟨w1, _⟩ := ok0 b _ q
      obtain ⟨w2, _⟩ := J.hok b _ z2
      rw [e] at w1
      cases w1
      exact w2
  cases fl with
  | ret u =>
    obtain ⟨v, σ', H', J, rr, q⟩ := z
    have q : v = .bl true := q
    subst q
    obtain rfl : u = Value.bool true := rr
    exact ⟨rfl, done J⟩
  | next =>
    obtain ⟨σ', H', J, q⟩ := z
    have q : V.non = .bl true := q
    cases q
  | brk =>
    obtain ⟨_, _, _, q⟩ := z
    exact False.elim q
  | cont =>
    obtain ⟨_, _, _, q⟩ := z
    exact False.elim q
end
end K11
set_option maxHeartbeats 4000000
/-! E2: what the head says, as the walks want it. -/
namespace K11
open PySem PySem.Spec PyProof.Rows L2
section
variable {K : PySem.W.Frag} {h : Heap} {mg : Str → Option Value}
theorem td_of (X : K.In h) (G : h.Ns mainGlobals mg) (c : Hd.SaysP K) (i : Nat) {x : Str} {st : Stmt} (h1 : Hd.fn[i]? = some ⟨(x, none), x, x, defArgs st, defBody st, defScope st, [], []⟩ := by rfl) (h2 : Hd.fa[i]? = some (.glo x) := by rfl) : TD K mg x st := by
  obtain ⟨fd, F⟩ := He.SaysD.def_ c.d i h1
  exact ⟨_, fd, F, He.glo_ok X G (He.SaysD.fact c.d i h2)⟩
theorem blt_of (X : K.In h) (G : h.Ns mainGlobals mg) (c : Hd.SaysP K) : Blt mg :=
  have f := fun (i : Nat) {x : Str} (h2 : Hd.fa[i]? = some (.free x)) => He.free_ok X G (He.SaysD.fact c.d i h2)
  ⟨f 43 rfl, f 44 rfl, f 45 rfl, f 46 rfl, f 47 rfl, f 48 rfl, f 49 rfl, f 50 rfl, f 51 rfl, f 52 rfl, f 53 rfl, f 54 rfl⟩
abbrev CO (K : PySem.W.Frag) : Addr := He.ga K "Order"
theorem oc_of (c : Hd.SaysP K) : OC K (CO K) :=
  ⟨He.cls_ok (He.SaysD.fact c.d 57 rfl), He.noat_ok (He.SaysD.fact c.d 61 rfl), He.noat_ok (He.SaysD.fact c.d 62 rfl), He.noat_ok (He.SaysD.fact c.d 63 rfl), He.noat_ok (He.SaysD.fact c.d 64 rfl)⟩
theorem most_of (X : K.In h) (G : h.Ns mainGlobals mg) (c : Hd.SaysP K) : ∃ t, mg "MOST" = some (.int 40 t) := He.int_ok X G (He.SaysD.fact c.d 55 rfl)
theorem above_of (c : Hd.SaysP K) : TM K (CO K) "above" "Order.above" s_Order_above := by
  obtain ⟨fd, F⟩ := He.SaysD.def_ c.d 44 rfl
  exact ⟨_, fd, F, He.meth_ok (He.SaysD.fact c.d 59 rfl)⟩
theorem uc_of2 (c : Hd.SaysP K) : TM K (CO K) "upper_covers" "Order.upper_covers" s_Order_upper_covers := by
  obtain ⟨fd, F⟩ := He.SaysD.def_ c.d 45 rfl
  exact ⟨_, fd, F, He.meth_ok (He.SaysD.fact c.d 60 rfl)⟩
theorem init_of (X : K.In h) (G : h.Ns mainGlobals mg) (c : Hd.SaysP K) : TK K mg (CO K) "Order" "Order.__init__" s_Order__init := by
  obtain ⟨fd, F⟩ := He.SaysD.def_ c.d 43 rfl
  exact ⟨_, fd, F, He.mkr_ok (He.SaysD.fact c.d 58 rfl), He.glo_ok X G (He.SaysD.fact c.d 56 rfl)⟩
/-- the getter of size -/
abbrev s_size : Stmt := inClass (topS 14) 1
theorem sc_size : FnScope ["self"] ["self"] (defScope s_size) := ⟨rfl, rfl, rfl, by decide +kernel, rfl, by decide +kernel, by decide +kernel⟩
theorem size_ok (c : Hd.SaysP K) {P : Program} {w : World} {base : Heap} : Dg P w K mg base 1 (CO K) "size" kS := by
  have hp := c.p
  unfold Hd.propB at hp
  obtain ⟨p1, hp⟩ := He.ba hp
  obtain ⟨p2, hp⟩ := He.ba hp
  obtain ⟨p3, hp⟩ := He.ba hp
  obtain ⟨p4, p5⟩ := He.ba hp
  have hg := c.g
  unfold Hd.getW at hg
  cases q : K.lookup (Hd.gAt K) with
  | none => rw [q] at p5; cases p5
  | some o =>
    obtain ⟨oc, od, dt, osl⟩ := o
    rw [q] at p5 hg
    cases dt with
    | func fd =>
      obtain ⟨n1, n2, n3, n4, n5, n6, n7, n8, n9, n10, n11, n12, n13, n14, n15⟩ := fd
      have e2 : (some (n1, n2, n3, n4, n5, n6, n7, n15) : He.FnW) = Hd.getV := hg
      unfold Hd.getV at e2
      simp only [Option.some.injEq, Prod.mk.injEq] at e2
      obtain ⟨h1, h2, h3, h4, h5, h6, h7, h8⟩ := e2
      subst h1 h2 h3 h4 h5 h6 h7 h8
      obtain ⟨k1, k2⟩ := He.ba (show (PySem.W.codeIn K n13 "Order.size" && (He.dflB K n8 [] && He.kwdB K n9 [])) = true from p5)
      obtain ⟨k3, _⟩ := He.ba k2
      have e8 : n8 = .none := by
        cases n8 with
        | none => rfl
        | _ => cases k3
      subst e8
      have F := fn_getter (CX := CX0) (P := P) (w := w) (mg := mg) (base := base) (k := 0) (dV := .none) (f := kS) q k1 sc_size rfl rfl (oc_of c).cls (oc_of c).nS
      refine ⟨Hd.pAt K, Hd.gAt K, _, ["self"], F, ⟨He.eqO_ok p1, He.eqO_ok p2, of_decide_eq_true p3, ?_⟩, .all fun us hl => match us, hl with | [_], _ => rfl⟩
      have p4 : (match PySem.W.recIn K (Hd.pAt K) "property" with
        | some (.ref g :: _) => decide (g = Hd.gAt K)
        | _ => false) = true := p4
      split at p4
      · rename_i g rest e
        have := of_decide_eq_true p4
        subst this
        exact ⟨rest, e⟩
      · cases p4
    | _ => cases p5
end
end K11
set_option maxHeartbeats 0
/-! E3: all defs together, the law's call. -/
namespace K11
open PySem PySem.Spec PyProof.Rows L2
section
variable {K : PySem.W.Frag} {h : Heap} {mg : Str → Option Value}
theorem law_all (X : K.In h) (G : h.Ns mainGlobals mg) (c : Hd.SaysP K) {P : Program} {w : World} {base : Heap} (f : Addr) (cdv : Value) (A : Around) (outer : List Env) (s₀ : Shared) (H : Hp) (vs : List V) (Q : VK) (E : XK) (hr : Room 11 (A.deeper (envOfC "law" (defScope s_law) s₀.heap.objs.size f cdv)))
    (hgu : (A.deeper (envOfC "law" (defScope s_law) s₀.heap.objs.size f cdv)).guards = some []) (hs : spLaw K vs H Q E) :
    ∃ t, PSs (cxOf CX0 P w K mg base N_law "law" (defScope s_law) f cdv A outer s₀ H E).nox (defBody s_law) t ∧ t { nx := fun _ H' => Q .non H', rt := Q } (start N_law vs) H := by
  have T := blt_of X G c
  have O := oc_of c
  have cell := d_cell (P := P) (w := w) (base := base) T (td_of X G c 7)
  have stream := d_stream (P := P) (w := w) (base := base) T (td_of X G c 8)
  have drw := d_draw (P := P) (w := w) (base := base) T (td_of X G c 9)
  have mixed := d_mixed T (td_of X G c 10) drw
  have closed := d_closed (P := P) (w := w) (base := base) T (td_of X G c 11)
  have pairs := d_pairs (P := P) (w := w) (base := base) T (td_of X G c 12)
  have covers := d_covers (P := P) (w := w) (base := base) T (td_of X G c 13)
  have upper := d_upper T (td_of X G c 14) covers
  have isint := d_isint (P := P) (w := w) (base := base) T (td_of X G c 15)
  have areint := d_areint T (td_of X G c 16) isint
  have anypairs := d_anypairs T (td_of X G c 17) drw mixed
  have anyspans := d_anyspans T (td_of X G c 18) drw
  have byspans := d_byspans (P := P) (w := w) (base := base) T (td_of X G c 19)
  have byrows := d_byrows (P := P) (w := w) (base := base) T (td_of X G c 20)
  have anytree := d_anytree T (td_of X G c 21) drw 7
  have members0 := d_members0 (P := P) (w := w) (base := base) T (td_of X G c 22)
  have bytree := d_bytree T (td_of X G c 23) members0 7
  have anyarcs := d_anyarcs T (td_of X G c 24) drw
  have byarcs := d_byarcs (P := P) (w := w) (base := base) T (td_of X G c 25)
  have anyparents := d_anyparents T (td_of X G c 26) drw mixed
  have byparents := d_byparents (P := P) (w := w) (base := base) T (td_of X G c 27)
  have byranks := d_byranks (P := P) (w := w) (base := base) T (td_of X G c 28)
  have crown := d_crown T (td_of X G c 29) drw mixed
  have family := d_family T (td_of X G c 30) drw mixed byranks byparents anyparents bytree anytree byarcs anyarcs byspans anyspans byrows crown anypairs
  have anyorder := d_anyorder T (td_of X G c 31) drw family closed
  have told := d_told T (td_of X G c 32) drw mixed pairs covers
  have isshort := d_isshort (P := P) (w := w) (base := base) T (td_of X G c 33)
  have arepairs := d_arepairs T (td_of X G c 34) isshort areint
  have tableof := d_tableof T (td_of X G c 35) isshort areint arepairs byarcs closed
  have members := d_members T (td_of X G c 36) areint
  have bars4 := d_bars4 T (td_of X G c 37) covers
  have bars := d_bars T (td_of X G c 38) members bars4
  have hasbar := d_hasbar T (td_of X G c 39) bars
  have right := d_right T (td_of X G c 40) tableof bars
  have arcsof := d_arcsof T (td_of X G c 41) upper
  have elems := d_elems (P := P) (w := w) (base := base) T (td_of X G c 2)
  have maskof := d_maskof (P := P) (w := w) (base := base) T (td_of X G c 3)
  have ring := d_foundring (P := P) (w := w) (K := K) (base := base) T (td_of X G c 4)
  have closedM := d_closedM T (td_of X G c 5) maskof
  have init := d_init T (most_of X G c) O (init_of X G c) ring closedM elems
  have above := d_above T O (above_of c) elems
  have uc := d_uc T O (uc_of2 c) elems above
  have size := size_ok c (mg := mg) (P := P) (w := w) (base := base)
  have fault := d_fault T O size uc (td_of X G c 0)
  have drawarcs := d_drawarcs T O size uc (td_of X G c 1) fault
  have draw2 := d_draw2 T (td_of X G c 6) drawarcs
  exact law_body T cell stream anyorder drw byarcs anyarcs closed init told drawarcs draw2 right hasbar arcsof f cdv A outer s₀ H vs Q E hr hgu hs
end
theorem law_end {P : Program} {w : World} {K : PySem.W.Frag} {mg mb : Str → Option Value} {fa a : Addr} {s : Shared} {vs : List Value} {ns : List Int} (X : K.In s.heap) (c : Hd.SaysP K) (hm : mg "law" = some (.ref fa))
    (g1 : s.heap.Ns mainGlobals mg) (g2 : s.heap.Ns builtinsNs mb) (g3 : ∀ x : Str, x ≠ "__name__" → mb x = bootBuiltins x) (g4 : s.heap.NoLimit) (g5 : s.gens = #[]) (ha : s.heap.get? a = some (scO vs)) (hi : IntsAre vs ns) (hl : ns.length ≤ 63) :
    codeAny (model P w) callerA (.call (.ref fa) ⟨[.ref a], []⟩) (fun r s' => r = .ok (.ret (.bool true)) ∧ OldK s.heap s'.heap ∧ s'.os = s.os ∧ AllBare s'.gens) s := by
  obtain ⟨fd, F⟩ := He.SaysD.def_ c.d 42 rfl
  have e := hm.symm.trans (He.glo_ok X g1 (He.SaysD.fact c.d 42 (f := .glo "law") rfl))
  cases e
  have b := FunD.bindsA (ps := ["_law_script"]) F fun _ _ _ _ _ _ us hl => match us, hl with | [_], _ => rfl
  exact law_run (k := 11) (sp := spLaw K) F sc_law X g1 g2 g3 g4 g5 ha hi (sz (by omega)) ⟨rfl, by decide, by decide⟩ (fun s u => b s [u] rfl) (fun H hS => ⟨a, ns, rfl, hS, fun _ => rfl⟩)
    fun base X2 G2 cdv H Q E hr hs => by
      obtain ⟨t, ht, q⟩ := law_all X2 G2 c (base := base) _ cdv callerA [] s H [.ref a] Q E hr rfl hs
      exact ⟨t, PSs.nox ht, q⟩
end K11
set_option maxHeartbeats 0
open PySem PySem.W PySem.Calls PyProof.Rows
theorem PySem.Challenge.cw_drawnorders_k11_whole_nets_holds : PySem.Challenge.rw_drawnorders_k11_whole_nets.Holds := by
  w_on; o_law
  refine HandSHeadRun.head_any (r := K11.Hd.R) (q := view K11.Hd.R.prog [101]) (H := K11.Hd.hk) (ob := K11.Hd.ob) (M := 6000) (loose := K11.Hd.loose) (d := HandSHeadRun.topDef K11.Hd.R.prog 101) (kwd := []) K11.Hd.ob_eq
    (by kernel_rfl) (fun s => by kernel_rfl) K11.Hd.run (by kernel_rfl) (by kernel_rfl) (by kernel_rfl) (by rfl)
    (by first | assumption | decide +kernel) (by decide +kernel) ⟨rfl, rfl, rfl, rfl, rfl, by decide +kernel⟩ ?hw ?hc
  case hw => w_witness2
  case hc =>
    refine Att.attach_call (l := PySem.Challenge.rw_drawnorders_k11_whole_nets) (n := 63) rfl (by kernel_rfl) fun w s₀ s₁ mg mb fa o pm cd doc a vs ns G Y ho hd hcd hmg hobj hints hlen hg => ?_
    obtain ⟨K, KX, c⟩ := Y
    have hm : mg ("law" : PySem.Str) = some (.ref fa) := by
      have e : (HandSHeadRun.topDef K11.Hd.R.prog 101).name = ("law" : PySem.Str) := by kernel_rfl
      rw [← e]; exact hmg
    exact K11.law_end KX c hm G.T.g G.T.b G.T.builtins G.T.nolimit hg hobj hints hlen
