import PyProof.Rows.All
import Wide.All
import OpenK.AllK
import Wide.FinOn
import HandS.ForMost
import HandS.Evl
import HandS.Codes
import HandS.Conv
import HandS.IsInst
import HandS.Deep
import HandS.Star
import HandS.Zip
import HandS.TupAny
import HandS.TupMul
import HandS.Walk
import HandS.Wide
import HandS.SortInts
import HandS.Lambda
import HandS.EndTab
import KE.GoesEnum
import HandS.Nested
import HandS.SortKw
import KE.KSortKey
import PySem.Challenge.RW_anymargin_k09_whole_next_classes_and_put
set_option Elab.async false
set_option linter.all false
set_option maxRecDepth 100000
set_option maxHeartbeats 4000000
namespace KD
open PySem PySem.Spec PyProof.Rows L2 Evl

/-! ### data under growing heaps -/
mutual
theorem dp_ex {K : PySem.W.Frag} {H H' : Hp} (e : Ex H H') : ∀ (d : PyData) (v : V), Dp K H v d → Dp K H' v d
  | .none, _, h => by cases h; exact .non
  | .bool b, _, h => by cases h; exact .bl b
  | .int i, _, h => by cases h; exact .int i
  | .str x, _, h => by cases h; exact .str x
  | .list ds, _, h => by
    cases h with
    | lst hs ha => exact .lst (ex_l e hs) (dpa_ex e ds _ ha)
  | .tuple ds, _, h => by
    cases h with
    | tup hs ha => exact .tup (ex_t e hs) (dpa_ex e ds _ ha)
  | .dict _, _, h => by cases h
theorem dpa_ex {K : PySem.W.Frag} {H H' : Hp} (e : Ex H H') : ∀ (ds : List PyData) (vs : List V), DpAll K H vs ds → DpAll K H' vs ds
  | [], _, h => by cases h; exact .nil
  | d :: ds, _, h => by
    cases h with
    | cons h1 h2 => exact .cons (dp_ex e d _ h1) (dpa_ex e ds _ h2)
end
section
variable {K : PySem.W.Frag} {H H' : Hp}
theorem _root_.Evl.Ex.dp (e : Ex H H') {d : PyData} {v : V} (h : Dp K H v d) : Dp K H' v d := dp_ex e d v h
theorem _root_.Evl.Ex.dpa (e : Ex H H') {ds : List PyData} {vs : List V} (h : DpAll K H vs ds) : DpAll K H' vs ds := dpa_ex e ds vs h
theorem dpa_len : ∀ {vs : List V} {ds : List PyData}, DpAll K H vs ds → vs.length = ds.length
  | _, _, .nil => rfl
  | _, _, .cons _ t => congrArg Nat.succ (dpa_len t)
theorem dpa_at : ∀ {vs : List V} {ds : List PyData} {i : Nat} {d : PyData}, DpAll K H vs ds → ds[i]? = some d → ∃ v, vs[i]? = some v ∧ Dp K H v d
  | _, _, _, _, .nil, e => by simp at e
  | _, _, 0, _, .cons r _, e => by simp at e; subst e; exact ⟨_, rfl, r⟩
  | _, _, i + 1, _, .cons _ t, e => by
    obtain ⟨v, h1, h2⟩ := dpa_at (i := i) t (by simpa using e)
    exact ⟨v, by simpa using h1, h2⟩
theorem dpa_back : ∀ {vs : List V} {ds : List PyData} {i : Nat} {v : V}, DpAll K H vs ds → vs[i]? = some v → ∃ d, ds[i]? = some d ∧ Dp K H v d
  | _, _, _, _, .nil, e => by simp at e
  | _, _, 0, _, .cons r _, e => by simp at e; subst e; exact ⟨_, rfl, r⟩
  | _, _, i + 1, _, .cons _ t, e => by
    obtain ⟨v, h1, h2⟩ := dpa_back (i := i) t (by simpa using e)
    exact ⟨v, by simpa using h1, h2⟩
theorem dpa_app : ∀ {vs ws : List V} {ds es : List PyData}, DpAll K H vs ds → DpAll K H ws es → DpAll K H (vs ++ ws) (ds ++ es)
  | _, _, _, _, .nil, s => s
  | _, _, _, _, .cons r t, s => .cons r (dpa_app t s)
theorem dpa_one {v : V} {d : PyData} (h : Dp K H v d) : DpAll K H [v] [d] := .cons h .nil
theorem dpa_take : ∀ {vs : List V} {ds : List PyData} (n : Nat), DpAll K H vs ds → DpAll K H (vs.take n) (ds.take n)
  | _, _, 0, _ => .nil
  | _, _, _ + 1, .nil => .nil
  | _, _, n + 1, .cons r t => .cons r (dpa_take n t)
theorem dpa_drop : ∀ {vs : List V} {ds : List PyData} (n : Nat), DpAll K H vs ds → DpAll K H (vs.drop n) (ds.drop n)
  | _, _, 0, r => r
  | _, _, _ + 1, .nil => .nil
  | _, _, n + 1, .cons _ t => dpa_drop n t
theorem dpa_ints : ∀ (ns : List Int), DpAll K H (ns.map V.int) (ns.map PyData.int)
  | [] => .nil
  | n :: ns => .cons (.int n) (dpa_ints ns)
theorem dpa_ints_eq : ∀ {ns : List Int} {vs : List V}, DpAll K H vs (ns.map PyData.int) → vs = ns.map V.int
  | [], _, h => by cases h; rfl
  | n :: ns, _, h => by
    cases h with
    | cons h1 h2 =>
      cases h1
      rw [dpa_ints_eq h2]
      rfl
theorem dpa_bls_eq : ∀ {bs : List Bool} {vs : List V}, DpAll K H vs (bs.map PyData.bool) → vs = bs.map V.bl
  | [], _, h => by cases h; rfl
  | n :: ns, _, h => by
    cases h with
    | cons h1 h2 =>
      cases h1
      rw [dpa_bls_eq h2]
      rfl
theorem dp_int {v : V} {i : Int} (h : Dp K H v (.int i)) : v = .int i := by cases h; rfl
theorem dp_bl {v : V} {i : Bool} (h : Dp K H v (.bool i)) : v = .bl i := by cases h; rfl
theorem dp_non {v : V} (h : Dp K H v .none) : v = .non := by cases h; rfl
theorem dp_tup {v : V} {ds : List PyData} (h : Dp K H v (.tuple ds)) : ∃ a xs, v = .ref a ∧ SqT K H a xs ∧ DpAll K H xs ds := by
  cases h with
  | tup hs ha => exact ⟨_, _, rfl, hs, ha⟩
theorem dp_lst {v : V} {ds : List PyData} (h : Dp K H v (.list ds)) : ∃ a xs, v = .ref a ∧ SqL K H a xs ∧ DpAll K H xs ds := by
  cases h with
  | lst hs ha => exact ⟨_, _, rfl, hs, ha⟩
end

/-! ### the semantics as readings -/
structure run (X : Cx) (e : Expr) (σ : L2.St) (H : Hp) (Q : VK) : Prop where
  go : ∀ (pins : List (Addr × Obj)) (s : Shared), Inv X pins σ H s → wpAny (model X.prog X.w) X.A (eval e X.env) (EP X pins σ Q) X.xe s
structure runT (X : Cx) (e : Expr) (σ : L2.St) (H : Hp) (Q : Bool → Hp → Prop) : Prop where
  go : ∀ (pins : List (Addr × Obj)) (s : Shared), Inv X pins σ H s → wpAny (model X.prog X.w) X.A (isTrue e X.env (eval e X.env)) (TP X pins σ Q) X.xe s
structure runW (X : Cx) (e : Expr) (σ : L2.St) (H : Hp) (Q : Bool → Hp → Prop) : Prop where
  go : ∀ (whole : Sem Value) (pins : List (Addr × Obj)) (s : Shared), Inv X pins σ H s → wpAny (model X.prog X.w) X.A (isTrue e X.env whole) (TP X pins σ Q) X.xe s
structure runA (X : Cx) (es : List Expr) (σ : L2.St) (H : Hp) (Q : List V → Hp → Prop) : Prop where
  go : ∀ (pos : Pos) (pins : List (Addr × Obj)) (s : Shared), Inv X pins σ H s → wpAny (model X.prog X.w) X.A (spliced (backTo pos (starEach es X.env))) (AP X pins σ Q) X.xe s
structure runS (X : Cx) (st : Stmt) (D : Ends) (σ : L2.St) (H : Hp) : Prop where
  go : ∀ (pins : List (Addr × Obj)) (s : Shared), Inv X pins σ H s → wpAny (model X.prog X.w) X.A (exec st X.env) (SP X pins D) X.xe s
structure runB (X : Cx) (sts : List Stmt) (D : Ends) (σ : L2.St) (H : Hp) : Prop where
  go : ∀ (pins : List (Addr × Obj)) (s : Shared), Inv X pins σ H s → wpAny (model X.prog X.w) X.A (execs sts X.env) (SP X pins D) X.xe s
structure runI (X : Cx) (tg iter : Expr) (σ : L2.St) (H : Hp) (R : It → Hp → Prop) : Prop where
  go : ∀ (pins : List (Addr × Obj)) (s : Shared), Inv X pins σ H s →
    wpAny (model X.prog X.w) X.A (eval iter X.env) (fun v s1 => wpAny (model X.prog X.w) X.A (pyIter v) (PIE X pins σ tg R) X.xe s1) X.xe s
structure runG (X : Cx) (tg : Expr) (v : V) (σ : L2.St) (H : Hp) (Q : L2.St → Hp → Prop) : Prop where
  go : ∀ (pins : List (Addr × Obj)) (s : Shared) (u : Value), Inv X pins σ H s → RelV v u →
    wpAny (model X.prog X.w) X.A (assign tg X.env u) (fun _ s' => ∃ σ' H', Inv X pins σ' H' s' ∧ Q σ' H') X.xe s
structure runGs (X : Cx) (ts : List Expr) (vs : List V) (σ : L2.St) (H : Hp) (Q : L2.St → Hp → Prop) : Prop where
  go : ∀ (pins : List (Addr × Obj)) (s : Shared) (us : List Value), Inv X pins σ H s → Vals vs us →
    wpAny (model X.prog X.w) X.A (assignInOrder ((assignEach ts X.env).map (·.2)) us) (fun _ s' => ∃ σ' H', Inv X pins σ' H' s' ∧ Q σ' H') X.xe s
structure runO (X : Cx) (e : Option Expr) (σ : L2.St) (H : Hp) (Q : Option Int → Hp → Prop) : Prop where
  go : ∀ (pins : List (Addr × Obj)) (s : Shared), Inv X pins σ H s →
    wpAny (model X.prog X.w) X.A (evalPart e X.env) (fun u s' => ∃ o H', Inv X pins σ H' s' ∧ IsPart u o ∧ Q o H') X.xe s
section
variable {X : Cx} {σ : L2.St} {H : Hp}
theorem pe_run (e : Expr) : PE X e (run X e) := ⟨fun pins s _ _ _ I h => h.go pins s I⟩
theorem pt_run (e : Expr) : PT X e (runT X e) := ⟨fun pins s _ _ _ I h => h.go pins s I⟩
theorem pw_run (e : Expr) : PW X e (runW X e) := ⟨fun wh pins s _ _ _ I h => h.go wh pins s I⟩
theorem pa_run (es : List Expr) : PA X es (runA X es) := ⟨fun pos pins s _ _ _ I h => h.go pos pins s I⟩
theorem ps_run (st : Stmt) : PS X st (runS X st) := ⟨fun pins s _ _ _ I h => h.go pins s I⟩
theorem pb_run (st : List Stmt) : PSs X st (runB X st) := ⟨fun pins s _ _ _ I h => h.go pins s I⟩
theorem pi_run (tg iter : Expr) : PI X tg iter (runI X tg iter) := ⟨fun pins s _ _ _ I h => h.go pins s I⟩
theorem pg_run (tg : Expr) : PG X tg (runG X tg) := ⟨fun pins s _ _ v u _ I r h => h.go pins s u I r⟩
theorem pgs_run (ts : List Expr) : PGs X ts (runGs X ts) := ⟨fun pins s _ _ v u _ I r h => h.go pins s u I r⟩
theorem po_run (e : Option Expr) : PO X e (runO X e) := ⟨fun pins s _ _ _ I h => h.go pins s I⟩
theorem of_pe {e : Expr} {t : TE} {Q : VK} (p : PE X e t) (h : t σ H Q) : run X e σ H Q := ⟨fun pins s I => p.run pins s σ H Q I h⟩
theorem of_pt {e : Expr} {t : TT} {Q : Bool → Hp → Prop} (p : PT X e t) (h : t σ H Q) : runT X e σ H Q := ⟨fun pins s I => p.run pins s σ H Q I h⟩
theorem of_pw {e : Expr} {t : TT} {Q : Bool → Hp → Prop} (p : PW X e t) (h : t σ H Q) : runW X e σ H Q := ⟨fun wh pins s I => p.run wh pins s σ H Q I h⟩
theorem of_pa {es : List Expr} {t : TA} {Q : List V → Hp → Prop} (p : PA X es t) (h : t σ H Q) : runA X es σ H Q := ⟨fun pos pins s I => p.run pos pins s σ H Q I h⟩
theorem of_ps {st : Stmt} {t : TS} {D : Ends} (p : PS X st t) (h : t D σ H) : runS X st D σ H := ⟨fun pins s I => p.run pins s σ H D I h⟩
theorem of_pb {st : List Stmt} {t : TS} {D : Ends} (p : PSs X st t) (h : t D σ H) : runB X st D σ H := ⟨fun pins s I => p.run pins s σ H D I h⟩
theorem of_pi {tg iter : Expr} {t : TI} {R : It → Hp → Prop} (p : PI X tg iter t) (h : t σ H R) : runI X tg iter σ H R := ⟨fun pins s I => p.run pins s σ H R I h⟩
theorem of_pg {tg : Expr} {t : TG} {v : V} {Q : L2.St → Hp → Prop} (p : PG X tg t) (h : t v σ H Q) : runG X tg v σ H Q := ⟨fun pins s u I r => p.run pins s σ H v u Q I r h⟩
theorem of_pgs {ts : List Expr} {t : TGs} {vs : List V} {Q : L2.St → Hp → Prop} (p : PGs X ts t) (h : t vs σ H Q) : runGs X ts vs σ H Q := ⟨fun pins s u I r => p.run pins s σ H vs u Q I r h⟩
theorem of_po {e : Option Expr} {t : TO} {Q : Option Int → Hp → Prop} (p : PO X e t) (h : t σ H Q) : runO X e σ H Q := ⟨fun pins s I => p.run pins s σ H Q I h⟩
end

/-! ### what is known of a context: N the names by slot, sc the scope as it is written -/
def visB (sc : Scope) (x : Str) : Bool := (decide (sc.names.lookup x = some .local) || decide (sc.names.lookup x = some .cell) || decide (sc.names.lookup x = some .free)) && !decide (x = "__debug__") && !decide (x = "__classdict__")
def locB (sc : Scope) (x : Str) : Bool := decide (sc.names.lookup x = some .local) || decide (sc.names.lookup x = some .cell)
def glB (sc : Scope) (x : Str) : Bool := decide (sc.names.lookup x = some .globalImplicit) && !decide (x = "__debug__") && !decide (x = "__name__")
class Cn (X : Cx) (N : outParam (List Str)) (sc : outParam Scope) (k : outParam Nat) : Prop where
  hN : X.N = N
  vis : ∀ x, sc.names.lookup x = some .local ∨ sc.names.lookup x = some .cell ∨ sc.names.lookup x = some .free → Vis X.env.scope x
  loc : ∀ x, sc.names.lookup x = some .local ∨ sc.names.lookup x = some .cell → Loc X.env.scope x ∧ (X.fn x = true ∨ X.env.scope.names.lookup x = some .local)
  loc1 : ∀ x, sc.names.lookup x = some .local → X.env.scope.names.lookup x = some .local
  cel : ∀ x, sc.names.lookup x = some .cell → X.env.scope.names.lookup x = some .cell
  gl : ∀ x, sc.names.lookup x = some .globalImplicit → X.env.scope.names.lookup x = some .globalImplicit
  cap : ∀ x, sc.names.lookup x = some .cell ∨ sc.names.lookup x = some .free → X.env.scope.names.lookup x = some .cell ∨ X.env.scope.names.lookup x = some .free
  kind : X.env.scope.kind = .function
  calm : X.calm = true
  nd : N.Nodup
  room : Room k X.A
  own : PassesOwn (model X.prog X.w) X.A X.env X.xe
section
variable {X : Cx} {N : List Str} {sc : Scope} {k : Nat} {x : Str}
theorem Cn.nd' (C : Cn X N sc k) : X.N.Nodup := by rw [C.hN]; exact C.nd
theorem Cn.at_ (C : Cn X N sc k) {i : Nat} (h : N[i]? = some x) : X.N[i]? = some x := by rw [C.hN]; exact h
theorem visB_of (h : visB sc x = true) : (sc.names.lookup x = some .local ∨ sc.names.lookup x = some .cell ∨ sc.names.lookup x = some .free) ∧ (x == ("__debug__" : Str)) = false ∧ (x == ("__classdict__" : Str)) = false := by
  unfold visB at h
  simp only [Bool.and_eq_true, Bool.or_eq_true, decide_eq_true_eq, Bool.not_eq_true', decide_eq_false_iff_not] at h
  refine ⟨?_, beq_eq_false_iff_ne.mpr h.1.2, beq_eq_false_iff_ne.mpr h.2⟩
  rcases h.1.1 with (h | h) | h
  · exact .inl h
  · exact .inr (.inl h)
  · exact .inr (.inr h)
theorem locB_of (h : locB sc x = true) : sc.names.lookup x = some .local ∨ sc.names.lookup x = some .cell := by
  unfold locB at h
  simp only [Bool.or_eq_true, decide_eq_true_eq] at h
  exact h
theorem glB_of (h : glB sc x = true) : sc.names.lookup x = some .globalImplicit ∧ (x == ("__debug__" : Str)) = false ∧ x ≠ "__name__" := by
  unfold glB at h
  simp only [Bool.and_eq_true, decide_eq_true_eq, Bool.not_eq_true', decide_eq_false_iff_not] at h
  exact ⟨h.1.1, beq_eq_false_iff_ne.mpr h.1.2, h.2⟩
theorem Cn.hu (C : Cn X N sc k) : X.A.units + 65 < cLine := by
  have := C.room.un
  omega
theorem Cn.mono (C : Cn X N sc k) {j : Nat} (h : j ≤ k) : Cn X N sc j := ⟨C.hN, C.vis, C.loc, C.loc1, C.cel, C.gl, C.cap, C.kind, C.calm, C.nd, C.room.mono h, C.own⟩
theorem relS_free {sc : Scope} : ∀ {names : List (Str × NameKind)} {x : Str}, names.lookup x = some .free →
    (names.map fun (n, k) => if (k == NameKind.free && sc.kind == .function && sc.names.lookup n == some .cell) then (n, NameKind.cell) else (n, k)).lookup x = some .cell ∨
    (names.map fun (n, k) => if (k == NameKind.free && sc.kind == .function && sc.names.lookup n == some .cell) then (n, NameKind.cell) else (n, k)).lookup x = some .free
  | [], _, h => by simp at h
  | (n, k) :: r, x, h => by
    have ih := @relS_free sc r x
    rw [List.map_cons]
    show List.lookup x ((if (k == NameKind.free && sc.kind == .function && sc.names.lookup n == some .cell) = true then (n, NameKind.cell) else (n, k)) :: _) = _ ∨ List.lookup x ((if (k == NameKind.free && sc.kind == .function && sc.names.lookup n == some .cell) = true then (n, NameKind.cell) else (n, k)) :: _) = _
    rw [List.lookup_cons] at h
    by_cases hx : (x == n) = true
    · rw [hx] at h
      cases h
      split
      · left
        rw [List.lookup_cons, hx]
      · right
        rw [List.lookup_cons, hx]
    · have hx' : (x == n) = false := by simpa using hx
      rw [hx'] at h
      have e : ∀ c : Bool, List.lookup x ((if c = true then (n, NameKind.cell) else (n, k)) :: List.map (fun (n, k) => if (k == NameKind.free && sc.kind == .function && sc.names.lookup n == some .cell) then (n, NameKind.cell) else (n, k)) r) = List.lookup x (List.map (fun (n, k) => if (k == NameKind.free && sc.kind == .function && sc.names.lookup n == some .cell) then (n, NameKind.cell) else (n, k)) r) := fun c => by
        cases c
        · show List.lookup x ((n, k) :: _) = _
          rw [List.lookup_cons, hx']
        · show List.lookup x ((n, NameKind.cell) :: _) = _
          rw [List.lookup_cons, hx']
      rw [e]
      exact ih h
/-- a comprehension's block -/
theorem Cn.blk (C : Cn X N sc k) (s : Shared) (H : Hp) (scope : Scope) (cl : List (Str × Addr)) (A : Addr) (fp : List Addr) (hk : scope.kind = .function) : Cn (X.blk s H scope (compEnvC scope cl A X.env) fp) N scope k where
  hN := C.hN
  vis := fun x h => by
    rcases h with h | h | h
    · exact .inl (lookup_relS_keep (by decide) h)
    · exact .inr (.inl (lookup_relS_keep (by decide) h))
    · exact .inr (relS_free h)
  loc := fun x h => by
    rcases h with h | h
    · exact ⟨.inl (lookup_relS_keep (by decide) h), .inr (lookup_relS_keep (by decide) h)⟩
    · refine ⟨.inr (lookup_relS_keep (by decide) h), .inl ?_⟩
      show (scope.names.lookup x == some .cell) = true
      rw [h]
      decide
  loc1 := fun x h => lookup_relS_keep (by decide) h
  cel := fun x h => lookup_relS_keep (by decide) h
  gl := fun x h => lookup_relS_keep (by decide) h
  cap := fun x h => by
    rcases h with h | h
    · exact .inl (lookup_relS_keep (by decide) h)
    · exact relS_free h
  kind := hk
  calm := C.calm
  nd := C.nd
  room := C.room
  own := PassesOwn.never
theorem Cn.blkOk (C : Cn X N sc k) {scope : Scope} {own : List (Str × Nat)} (h : blkC N sc scope own = true) : BlkOk X.N X.env.scope scope own := by
  obtain ⟨h1, h2, h3, h4, h5⟩ := blkOk_by h
  rw [C.hN]
  exact ⟨h1, h2, h3, fun y hy e => C.cap y.1 (h4 y hy e), h5⟩
end
/-! ### what evaluates to which data -/
def ED (X : Cx) (e : Expr) (σ : L2.St) (H : Hp) (d : PyData) : Prop := ∀ H1, Ex H H1 → ∀ Q : VK, (∀ v H2, Ex H1 H2 → Dp X.K H2 v d → Q v H2) → run X e σ H1 Q
def ET (X : Cx) (e : Expr) (σ : L2.St) (H : Hp) (b : Bool) : Prop := ∀ H1, Ex H H1 → ∀ Q : Bool → Hp → Prop, (∀ H2, Ex H1 H2 → Q b H2) → runT X e σ H1 Q
def EW (X : Cx) (e : Expr) (σ : L2.St) (H : Hp) (b : Bool) : Prop := ∀ H1, Ex H H1 → ∀ Q : Bool → Hp → Prop, (∀ H2, Ex H1 H2 → Q b H2) → runW X e σ H1 Q
def EA (X : Cx) (es : List Expr) (σ : L2.St) (H : Hp) (ds : List PyData) : Prop := ∀ H1, Ex H H1 → ∀ Q : List V → Hp → Prop, (∀ vs H2, Ex H1 H2 → DpAll X.K H2 vs ds → Q vs H2) → runA X es σ H1 Q
def EO (X : Cx) (e : Option Expr) (σ : L2.St) (H : Hp) (o : Option Int) : Prop := ∀ H1, Ex H H1 → ∀ Q : Option Int → Hp → Prop, (∀ H2, Ex H1 H2 → Q o H2) → runO X e σ H1 Q
/-- a new list -/
def EL (X : Cx) (e : Expr) (σ : L2.St) (H : Hp) (ds : List PyData) : Prop := ∀ H1, Ex H H1 → ∀ Q : VK, (∀ p xs H2, H1 p = none → Ex H1 H2 → H2 p = some (.lst xs) → DpAll X.K H2 xs ds → Q (.ref p) H2) → run X e σ H1 Q
/-- a two-place operation on data -/
def OD (X : Cx) (f : Value → Value → Sem Value) (d1 d2 d3 : PyData) : Prop := ∃ r : R2, OpR X f r ∧ ∀ x y H, Dp X.K H x d1 → Dp X.K H y d2 → ∀ Q : VK, (∀ v H2, Ex H H2 → Dp X.K H2 v d3 → Q v H2) → r x y H Q
/-- a call of a built-in on data -/
def CD (X : Cx) (f : Value) (ds : List PyData) (d : PyData) : Prop := ∃ r : List V → Hp → VK → Prop, CallR X f r ∧ ∀ xs H, DpAll X.K H xs ds → ∀ Q : VK, (∀ v H2, Ex H H2 → Dp X.K H2 v d → Q v H2) → r xs H Q
/-- a promise by data -/
def spD (K : PySem.W.Frag) (F : List PyData → PyData → Prop) : Sp := fun vs H Q _ => ∃ ds d, DpAll K H vs ds ∧ F ds d ∧ ∀ v H', Ex H H' → Dp K H' v d → Q v H'
/-- the module's names -/
class Bl (mg : Str → Option Value) : Prop where
  len : mg "len" = none
  isinstance : mg "isinstance" = none
  all : mg "all" = none
  any : mg "any" = none
  sorted : mg "sorted" = none
  list : mg "list" = none
  tuple : mg "tuple" = none
  range : mg "range" = none
  zip : mg "zip" = none
  enumerate : mg "enumerate" = none
  int : mg "int" = none
  bool : mg "bool" = none
  abs : mg "abs" = none
  max : mg "max" = none
  min : mg "min" = none
def GI (mg : Str → Option Value) (x : Str) (n : Int) : Prop := ∃ u, mg x = some u ∧ RelV (.int n) u

section
variable {X : Cx} {N : List Str} {sc : Scope} {k : Nat} {σ : L2.St} {H H' : Hp} {e a b c : Expr} {es : List Expr} {d d1 d2 d3 : PyData} {ds : List PyData} {x : Str} {pos p : Pos}
theorem ED.mono (h : ED X e σ H d) (q : Ex H H') : ED X e σ H' d := fun H1 q1 => h H1 (q.trans q1)
theorem ET.mono {t : Bool} (h : ET X e σ H t) (q : Ex H H') : ET X e σ H' t := fun H1 q1 => h H1 (q.trans q1)
theorem EL.mono (h : EL X e σ H ds) (q : Ex H H') : EL X e σ H' ds := fun H1 q1 => h H1 (q.trans q1)
theorem EA.mono (h : EA X es σ H ds) (q : Ex H H') : EA X es σ H' ds := fun H1 q1 => h H1 (q.trans q1)
theorem ED.go (h : ED X e σ H d) {Q : VK} (q : ∀ v H2, Ex H H2 → Dp X.K H2 v d → Q v H2) : run X e σ H Q := h H (Ex.refl H) Q q
theorem ET.go {t : Bool} (h : ET X e σ H t) {Q : Bool → Hp → Prop} (q : ∀ H2, Ex H H2 → Q t H2) : runT X e σ H Q := h H (Ex.refl H) Q q
theorem EA.go (h : EA X es σ H ds) {Q : List V → Hp → Prop} (q : ∀ vs H2, Ex H H2 → DpAll X.K H2 vs ds → Q vs H2) : runA X es σ H Q := h H (Ex.refl H) Q q
theorem EL.go (h : EL X e σ H ds) {Q : VK} (q : ∀ p xs H2, H p = none → Ex H H2 → H2 p = some (.lst xs) → DpAll X.K H2 xs ds → Q (.ref p) H2) : run X e σ H Q := h H (Ex.refl H) Q q
theorem ED.is (h : ED X e σ H d) (q : d = d1) : ED X e σ H d1 := q ▸ h
theorem ET.is {t t1 : Bool} (h : ET X e σ H t) (q : t = t1) : ET X e σ H t1 := q ▸ h
theorem EL.is {ds1 : List PyData} (h : EL X e σ H ds) (q : ds = ds1) : EL X e σ H ds1 := q ▸ h
theorem EL.ed (h : EL X e σ H ds) : ED X e σ H (.list ds) := fun H1 q Q k => h H1 q Q fun p xs H2 _ e2 h2 ha => k _ H2 e2 (.lst (sq_of h2) ha)
/-! names and constants -/
theorem ed_var [C : Cn X N sc k] (i : Nat) {v : V} (hv : σ[i]? = some (some v)) (hd : Dp X.K H v d) (hN : N[i]? = some x := by rfl) (hs : visB sc x = true := by decide +kernel) : ED X (.Name x pos) σ H d := fun H1 q Q k =>
  of_pe (pe_var (C.at_ hN) (C.vis x (visB_of hs).1) (visB_of hs).2.1 (visB_of hs).2.2) ⟨v, hv, k v H1 (Ex.refl H1) (q.dp hd)⟩
theorem ed_int {i : Int} {j : Nat} : ED X (.Constant (.int i) j pos) σ H (.int i) := fun H1 _ _ k => of_pe pe_int (k _ H1 (Ex.refl H1) (.int i))
theorem ed_bl {i : Bool} {j : Nat} : ED X (.Constant (.bool i) j pos) σ H (.bool i) := fun H1 _ _ k => of_pe pe_bl (k _ H1 (Ex.refl H1) (.bl i))
theorem ed_non {j : Nat} : ED X (.Constant .none j pos) σ H .none := fun H1 _ _ k => of_pe pe_non (k _ H1 (Ex.refl H1) .non)
theorem ed_glob [C : Cn X N sc k] {n : Int} (g : GI X.mg x n) (hs : glB sc x = true := by decide +kernel) : ED X (.Name x pos) σ H (.int n) := fun H1 q Q k =>
  of_pe (C8.pe_gc (C.gl x (glB_of hs).1) g (glB_of hs).2.1) (k _ H1 (Ex.refl H1) (.int n))
/-! operators -/
theorem ed_bin {op : Operator} (o : OD X (binaryOp op) d1 d2 d3) (ha : ED X a σ H d1) (hb : ED X b σ H d2) : ED X (.BinOp a op b pos) σ H d3 := fun H1 q Q k => by
  obtain ⟨r, ho, hr⟩ := o
  refine of_pe (pe_op ho (pe_run a) (pe_run b)) (ha H1 q _ fun x H2 q2 dx => hb H2 (q.trans q2) _ fun y H3 q3 dy => hr x y H3 (q3.dp dx) dy Q fun v H4 q4 dv => k v H4 ((q2.trans q3).trans q4) dv)
theorem ed_cmp {op : CmpOp} (o : OD X (compareOp op) d1 d2 d3) (ha : ED X a σ H d1) (hb : ED X b σ H d2) (hm : behindInMarks op b = false := by rfl) : ED X (.Compare a [op] [b] pos) σ H d3 := fun H1 q Q k => by
  obtain ⟨r, ho, hr⟩ := o
  refine of_pe (pe_cmpR ho (pe_run a) (pe_run b) hm) (ha H1 q _ fun x H2 q2 dx => hb H2 (q.trans q2) _ fun y H3 q3 dy => hr x y H3 (q3.dp dx) dy Q fun v H4 q4 dv => k v H4 ((q2.trans q3).trans q4) dv)
theorem et_cmp {op : CmpOp} {t : Bool} (o : OD X (compareOp op) d1 d2 (.bool t)) (ha : ED X a σ H d1) (hb : ED X b σ H d2) (hm : behindInMarks op b = false := by rfl) : ET X (.Compare a [op] [b] pos) σ H t := fun H1 q Q k => by
  obtain ⟨r, ho, hr⟩ := o
  refine of_pt (pt_cmpR ho (pe_run a) (pe_run b) hm) (ha H1 q _ fun x H2 q2 dx => hb H2 (q.trans q2) _ fun y H3 q3 dy => hr x y H3 (q3.dp dx) dy _ fun v H4 q4 dv => ⟨t, dp_bl dv, k H4 ((q2.trans q3).trans q4)⟩)
theorem ed_chain {op op' : CmpOp} {t u : Bool} (o : OD X (compareOp op) d1 d2 (.bool t)) (o' : OD X (compareOp op') d2 d3 (.bool u)) (ha : ED X a σ H d1) (hb : ED X b σ H d2) (hc : ED X c σ H d3)
    (hm : lastMarks [op, op'] [b, c] = false := by rfl) : ED X (.Compare a [op, op'] [b, c] pos) σ H (.bool (t && u)) := fun H1 q Q k => by
  obtain ⟨r, ho, hr⟩ := o
  obtain ⟨r', ho', hr'⟩ := o'
  refine of_pe (pe_chain ho ho' (pe_run a) (pe_run b) (pe_run c) hm) (ha H1 q _ fun x H2 q2 dx => hb H2 (q.trans q2) _ fun y H3 q3 dy => hr x y H3 (q3.dp dx) dy _ fun v H4 q4 dv => ⟨t, dp_bl dv, ?_⟩)
  cases t with
  | true =>
    show run X c σ H4 _
    exact hc H4 (((q.trans q2).trans q3).trans q4) _ fun z H5 q5 dz => hr' y z H5 ((q4.trans q5).dp dy) dz Q fun w H6 q6 dw => k w H6 ((((q2.trans q3).trans q4).trans q5).trans q6) dw
  | false =>
    show Q (.bl false) H4
    exact k _ H4 ((q2.trans q3).trans q4) (.bl false)
theorem ed_un {op : UnaryOp} {g : Int → Int} {i : Int} (o : UnR X (unaryOp op) (rU fun i => .int (g i))) (ha : ED X a σ H (.int i)) : ED X (.UnaryOp op a pos) σ H (.int (g i)) := fun H1 q Q k =>
  of_pe (pe_un o (pe_run a)) (ha H1 q _ fun x H2 q2 dx => ⟨i, dp_int dx, k _ H2 q2 (.int _)⟩)
theorem ed_neg {i : Int} (ha : ED X a σ H (.int i)) : ED X (.UnaryOp .USub a pos) σ H (.int (-i)) := ed_un un_neg ha
theorem ed_not {t : Bool} (ha : ED X a σ H (.bool t)) : ED X (.UnaryOp .Not a pos) σ H (.bool (!t)) := fun H1 q Q k =>
  of_pe (pe_not (pe_run a)) (ha H1 q _ fun x H2 q2 dx => ⟨t, dp_bl dx, k _ H2 q2 (.bl _)⟩)
theorem ed_and1 {op : BoolOp} (ha : ED X a σ H d) : ED X (.BoolOp op [a] pos) σ H d := fun H1 q Q k => of_pe (pe_one (pe_run a)) (ha H1 q Q k)
theorem ed_and {t u : Bool} (ha : ED X a σ H (.bool t)) (hb : t = true → ED X (.BoolOp .And (b :: es) pos) σ H (.bool u)) : ED X (.BoolOp .And (a :: b :: es) pos) σ H (.bool (t && u)) := fun H1 q Q k =>
  of_pe (pe_and (pe_run a) (pe_run _)) (ha H1 q _ fun x H2 q2 dx => ⟨t, dp_bl dx, by
    cases t with
    | true =>
      show run X _ σ H2 Q
      exact hb rfl H2 (q.trans q2) Q fun v H3 q3 dv => k v H3 (q2.trans q3) dv
    | false =>
      show Q (.bl false) H2
      exact k _ H2 q2 (.bl false)⟩)
theorem ed_or {t u : Bool} (ha : ED X a σ H (.bool t)) (hb : t = false → ED X (.BoolOp .Or (b :: es) pos) σ H (.bool u)) : ED X (.BoolOp .Or (a :: b :: es) pos) σ H (.bool (t || u)) := fun H1 q Q k =>
  of_pe (pe_or (pe_run a) (pe_run _)) (ha H1 q _ fun x H2 q2 dx => ⟨t, dp_bl dx, by
    cases t with
    | false =>
      show run X _ σ H2 Q
      exact hb rfl H2 (q.trans q2) Q fun v H3 q3 dv => k v H3 (q2.trans q3) dv
    | true =>
      show Q (.bl true) H2
      exact k _ H2 q2 (.bl true)⟩)
theorem ed_if {t : Bool} (hc : ET X c σ H t) (ha : t = true → ED X a σ H d) (hb : t = false → ED X b σ H d) : ED X (.IfExp c a b pos) σ H d := fun H1 q Q k =>
  of_pe (pe_ifExp (pt_run c) (pe_run a) (pe_run b)) (hc H1 q _ fun H2 q2 => by
    cases t with
    | true =>
      show run X a σ H2 Q
      exact ha rfl H2 (q.trans q2) Q fun v H3 q3 dv => k v H3 (q2.trans q3) dv
    | false =>
      show run X b σ H2 Q
      exact hb rfl H2 (q.trans q2) Q fun v H3 q3 dv => k v H3 (q2.trans q3) dv)
/-! tests -/
theorem et_val {t : Bool} (h : ED X e σ H (.bool t)) (he : ∀ whole, isTrue e X.env whole = (do let v ← whole; standAt e.pos; holding [v] (truthy v)) := by intro _; rfl) : ET X e σ H t := fun H1 q Q k =>
  of_pt (pt_val (pe_run e) he) (h H1 q _ fun v H2 q2 dv => ⟨t, dp_bl dv, k H2 q2⟩)
theorem et_not {t : Bool} (ha : ET X a σ H t) : ET X (.UnaryOp .Not a pos) σ H (!t) := fun H1 q Q k => of_pt (pt_not (pt_run a)) (ha H1 q _ fun H2 q2 => k H2 q2)
theorem et_w {t : Bool} (h : EW X e σ H t) : ET X e σ H t := fun H1 q Q k => of_pt (pw_run e).pt (h H1 q Q k)
theorem ew_and1 {t : Bool} (ha : ET X a σ H t) : EW X (.BoolOp .And [a] pos) σ H t := fun H1 q Q k => of_pw (pw_and1 (pt_run a)) (ha H1 q Q k)
theorem ew_or1 {t : Bool} (ha : ET X a σ H t) : EW X (.BoolOp .Or [a] pos) σ H t := fun H1 q Q k => of_pw (pw_or1 (pt_run a)) (ha H1 q Q k)
theorem ew_and {t u : Bool} (ha : ET X a σ H t) (hb : t = true → EW X (.BoolOp .And (b :: es) pos) σ H u) : EW X (.BoolOp .And (a :: b :: es) pos) σ H (t && u) := fun H1 q Q k =>
  of_pw (pw_and (pt_run a) (pw_run _)) (ha H1 q _ fun H2 q2 => by
    cases t with
    | true =>
      show runW X _ σ H2 Q
      exact hb rfl H2 (q.trans q2) Q fun H3 q3 => k H3 (q2.trans q3)
    | false =>
      show Q false H2
      exact k H2 q2)
theorem ew_or {t u : Bool} (ha : ET X a σ H t) (hb : t = false → EW X (.BoolOp .Or (b :: es) pos) σ H u) : EW X (.BoolOp .Or (a :: b :: es) pos) σ H (t || u) := fun H1 q Q k =>
  of_pw (pw_or (pt_run a) (pw_run _)) (ha H1 q _ fun H2 q2 => by
    cases t with
    | false =>
      show runW X _ σ H2 Q
      exact hb rfl H2 (q.trans q2) Q fun H3 q3 => k H3 (q2.trans q3)
    | true =>
      show Q true H2
      exact k H2 q2)
/-! arguments, displays, calls -/
theorem ea_nil : EA X [] σ H [] := fun H1 q Q k => of_pa pa_nil (k [] H1 (Ex.refl H1) .nil)
theorem ea_cons (ha : ED X a σ H d) (hb : EA X es σ H ds) (hs : starEach (a :: es) X.env = (false, eval a X.env) :: starEach es X.env := by rfl) : EA X (a :: es) σ H (d :: ds) := fun H1 q Q k =>
  of_pa (pa_cons (pe_run a) (pa_run es) hs) (ha H1 q _ fun v H2 q2 dv => hb H2 (q.trans q2) _ fun vs H3 q3 dvs => k _ H3 (q2.trans q3) (.cons (q3.dp dv) dvs))
theorem ea_starT {es1 : List PyData} (ha : ED X a σ H (.tuple es1)) (hb : EA X es σ H ds) (hs : starEach (.Starred a p :: es) X.env = (true, eval a X.env) :: starEach es X.env := by rfl) : EA X (.Starred a p :: es) σ H (es1 ++ ds) := fun H1 q Q k =>
  of_pa (StX.pa_star (pe_run a) (pa_run es) hs) (ha H1 q _ fun v H2 q2 dv => by
    obtain ⟨r, xs, rfl, hx, hxs⟩ := dp_tup dv
    exact ⟨r, xs, rfl, .inl hx, hb H2 (q.trans q2) _ fun vs H3 q3 dvs => k _ H3 (q2.trans q3) (dpa_app (q3.dpa hxs) dvs)⟩)
theorem ea_starL {es1 : List PyData} (ha : ED X a σ H (.list es1)) (hb : EA X es σ H ds) (hs : starEach (.Starred a p :: es) X.env = (true, eval a X.env) :: starEach es X.env := by rfl) : EA X (.Starred a p :: es) σ H (es1 ++ ds) := fun H1 q Q k =>
  of_pa (StX.pa_star (pe_run a) (pa_run es) hs) (ha H1 q _ fun v H2 q2 dv => by
    obtain ⟨r, xs, rfl, hx, hxs⟩ := dp_lst dv
    exact ⟨r, xs, rfl, .inr hx, hb H2 (q.trans q2) _ fun vs H3 q3 dvs => k _ H3 (q2.trans q3) (dpa_app (q3.dpa hxs) dvs)⟩)
theorem ed_tup {j : Nat} (h : EA X es σ H ds) (hz : ds.length ≤ 100000 := by exact Nat.le_of_ble_eq_true rfl) : ED X (.Tuple es j pos) σ H (.tuple ds) := fun H1 q Q k =>
  of_pe (pe_tup (pa_run es)) (h H1 q _ fun vs H2 q2 dvs => ⟨by rw [dpa_len dvs]; exact sz_of hz, fun r hr => k _ _ (q2.trans (Ex.new hr)) (.tup (st_of upd_same) ((Ex.new hr).dpa dvs))⟩)
theorem el_lst (h : EA X es σ H ds) (hz : ds.length ≤ 100000 := by exact Nat.le_of_ble_eq_true rfl) : EL X (.List es pos) σ H ds := fun H1 q Q k =>
  of_pe (pe_lst (pa_run es)) (h H1 q _ fun vs H2 q2 dvs => ⟨by rw [dpa_len dvs]; exact sz_of hz, fun r hr => k r vs _ (fresh_back q2 hr) (q2.trans (Ex.new hr)) upd_same ((Ex.new hr).dpa dvs)⟩)
theorem ed_call [C : Cn X N sc k] {j : Nat} {F : List PyData → PyData → Prop} (c : C8.Cal X.prog X.w X.K X.mg X.base j x (spD X.K F) []) (ha : EA X (e :: es) σ H ds) (hF : F ds d) (hk : j ≤ k := by decide) (hs : glB sc x = true := by decide +kernel)
    (he : starEach (e :: es) X.env = (false, eval e X.env) :: starEach es X.env := by rfl) (hpl : (backTo pos (starEach es X.env)).any (·.1) = false := by rfl) : ED X (.Call (.Name x p) (e :: es) [] pos) σ H d := fun H1 q Q kk =>
  of_pe (C8.pe_c c C.room hk (C.gl x (glB_of hs).1) (pa_run _) (glB_of hs).2.1 he hpl) (ha H1 q _ fun vs H2 q2 dvs => by
    show spD X.K F (vs ++ []) H2 Q _
    rw [List.append_nil]
    exact ⟨ds, d, dvs, hF, fun v H3 q3 dv => kk v H3 (q2.trans q3) dv⟩)
theorem ed_callB [C : Cn X N sc k] {id : String} (c : CD X (.builtin id) ds d) (hm : X.mg x = none) (hv : bootBuiltins x = some (.builtin id)) (ha : EA X (e :: es) σ H ds) (hs : glB sc x = true := by decide +kernel)
    (he : starEach (e :: es) X.env = (false, eval e X.env) :: starEach es X.env := by rfl) (hpl : (backTo pos (starEach es X.env)).any (·.1) = false := by rfl) : ED X (.Call (.Name x p) (e :: es) [] pos) σ H d := fun H1 q Q kk => by
  obtain ⟨r, hc, hr⟩ := c
  exact of_pe (pe_callB hc (C.gl x (glB_of hs).1) hm hv (pa_run _) (glB_of hs).2.2 (glB_of hs).2.1 he hpl) (ha H1 q _ fun vs H2 q2 dvs => hr vs H2 dvs Q fun v H3 q3 dv => kk v H3 (q2.trans q3) dv)
theorem ed_callTy [C : Cn X N sc k] {id : String} (c : CD X (.type id) ds d) (hm : X.mg x = none) (hv : bootBuiltins x = some (.type id)) (ha : EA X (e :: es) σ H ds) (hs : glB sc x = true := by decide +kernel)
    (he : starEach (e :: es) X.env = (false, eval e X.env) :: starEach es X.env := by rfl) (hpl : (backTo pos (starEach es X.env)).any (·.1) = false := by rfl) : ED X (.Call (.Name x p) (e :: es) [] pos) σ H d := fun H1 q Q kk => by
  obtain ⟨r, hc, hr⟩ := c
  exact of_pe (pe_callTy hc (C.gl x (glB_of hs).1) hm hv (pa_run _) (glB_of hs).2.2 (glB_of hs).2.1 he hpl) (ha H1 q _ fun vs H2 q2 dvs => hr vs H2 dvs Q fun v H3 q3 dv => kk v H3 (q2.trans q3) dv)
/-! operations on ints -/
theorem od_I0 {f : Value → Value → Sem Value} {g : Int → Int → Int} {i j : Int} (o : OpR X f (rI0 fun i j => .int (g i j))) : OD X f (.int i) (.int j) (.int (g i j)) := ⟨_, o, fun x y H dx dy Q k => ⟨i, j, dp_int dx, dp_int dy, k _ H (Ex.refl H) (.int _)⟩⟩
theorem od_I {f : Value → Value → Sem Value} {P : Int → Int → Prop} {g : Int → Int → Int} {i j : Int} (o : OpR X f (rI P fun i j => .int (g i j))) (hp : P i j) : OD X f (.int i) (.int j) (.int (g i j)) := ⟨_, o, fun x y H dx dy Q k => ⟨i, j, dp_int dx, dp_int dy, hp, k _ H (Ex.refl H) (.int _)⟩⟩
theorem od_B0 {f : Value → Value → Sem Value} {g : Int → Int → Bool} {i j : Int} (o : OpR X f (rI0 fun i j => .bl (g i j))) : OD X f (.int i) (.int j) (.bool (g i j)) := ⟨_, o, fun x y H dx dy Q k => ⟨i, j, dp_int dx, dp_int dy, k _ H (Ex.refl H) (.bl _)⟩⟩
theorem od_add {i j : Int} : OD X (binaryOp .Add) (.int i) (.int j) (.int (i + j)) := od_I0 op_add
theorem od_sub {i j : Int} : OD X (binaryOp .Sub) (.int i) (.int j) (.int (i - j)) := od_I0 op_sub
theorem od_mul {i j : Int} (h : CMulW i j) : OD X (binaryOp .Mult) (.int i) (.int j) (.int (i * j)) := od_I op_mulW h
theorem od_mulS {i j : Int} (h : CMul i j) : OD X (binaryOp .Mult) (.int i) (.int j) (.int (i * j)) := od_I op_mul h
theorem od_div {i j : Int} (h : CDivW i j) : OD X (binaryOp .FloorDiv) (.int i) (.int j) (.int (i / j)) := od_I op_fdivW h
theorem od_mod {i j : Int} (h : 0 < j) : OD X (binaryOp .Mod) (.int i) (.int j) (.int (i % j)) := od_I op_mod h
theorem od_pow {i j : Int} (h : CPow i j) : OD X (binaryOp .Pow) (.int i) (.int j) (.int (i ^ j.toNat)) := od_I op_pow h
theorem od_lt {i j : Int} : OD X (compareOp .Lt) (.int i) (.int j) (.bool (decide (i < j))) := od_B0 op_lt
theorem od_le {i j : Int} : OD X (compareOp .LtE) (.int i) (.int j) (.bool (decide (i ≤ j))) := od_B0 op_le
theorem od_gt {i j : Int} : OD X (compareOp .Gt) (.int i) (.int j) (.bool (decide (j < i))) := od_B0 op_gt
theorem od_ge {i j : Int} : OD X (compareOp .GtE) (.int i) (.int j) (.bool (decide (j ≤ i))) := od_B0 op_ge
theorem od_eqI {i j : Int} : OD X (compareOp .Eq) (.int i) (.int j) (.bool (decide (i = j))) := ⟨_, op_eq, fun x y H dx dy Q k => by
  cases dx
  cases dy
  refine ⟨rfl, ?_⟩
  have h := k _ H (Ex.refl H) (.bl _)
  rw [show decide (V.int i = V.int j) = decide (i = j) from by
    rw [dec_int]
    exact Bool.beq_eq_decide_eq i j]
  exact h⟩
theorem od_neI {i j : Int} : OD X (compareOp .NotEq) (.int i) (.int j) (.bool (!decide (i = j))) := ⟨_, op_ne, fun x y H dx dy Q k => by
  cases dx
  cases dy
  refine ⟨rfl, ?_⟩
  have h := k _ H (Ex.refl H) (.bl _)
  rw [show decide (V.int i = V.int j) = decide (i = j) from by
    rw [dec_int]
    exact Bool.beq_eq_decide_eq i j]
  exact h⟩
/-! data compared -/
theorem od_eqD [C : Cn X N sc k] (h1 : SeqAt.shaped d1 = true) (h2 : SeqAt.shaped d2 = true) : OD X (compareOp .Eq) d1 d2 (.bool (PyData.eqv d1 d2)) := ⟨_, op_eqD (by have := C.hu; omega), fun x y H dx dy Q k => ⟨d1, d2, dx, dy, h1, h2, k _ H (Ex.refl H) (.bl _)⟩⟩
theorem od_neD [C : Cn X N sc k] (h1 : SeqAt.shaped d1 = true) (h2 : SeqAt.shaped d2 = true) : OD X (compareOp .NotEq) d1 d2 (.bool (!PyData.eqv d1 d2)) := ⟨_, op_neD (by have := C.hu; omega), fun x y H dx dy Q k => ⟨d1, d2, dx, dy, h1, h2, k _ H (Ex.refl H) (.bl _)⟩⟩
theorem od_inD [C : Cn X N sc k] (h1 : SeqAt.shaped d1 = true) (h2 : SeqAt.shaped (.list ds) = true) : OD X (compareOp .In) d1 (.list ds) (.bool (ds.any fun z => PyData.eqv z d1)) := ⟨_, op_inD C.hu, fun x y H dx dy Q k => ⟨d1, ds, dx, dy, h1, h2, k _ H (Ex.refl H) (.bl _)⟩⟩
theorem od_notInD [C : Cn X N sc k] (h1 : SeqAt.shaped d1 = true) (h2 : SeqAt.shaped (.list ds) = true) : OD X (compareOp .NotIn) d1 (.list ds) (.bool (!ds.any fun z => PyData.eqv z d1)) := ⟨_, op_notInD C.hu, fun x y H dx dy Q k => ⟨d1, ds, dx, dy, h1, h2, k _ H (Ex.refl H) (.bl _)⟩⟩
theorem flat_ints : ∀ ns : List Int, (ns.map V.int).all flatV = true
  | [] => rfl
  | n :: ns => by rw [List.map_cons, List.all_cons, flat_ints ns]; rfl
theorem inV_ints (i : Int) : ∀ ns : List Int, inV (.int i) (ns.map V.int) = decide (i ∈ ns)
  | [] => rfl
  | n :: ns => by
    have ih := inV_ints i ns
    unfold inV at ih ⊢
    rw [List.map_cons, List.any_cons, ih]
    show ((n == i) || decide (i ∈ ns)) = _
    by_cases h : n = i
    · subst h; simp
    · have h' : ¬ i = n := fun z => h z.symm
      simp [h, h']
theorem od_inT {i : Int} {ns : List Int} : OD X (compareOp .In) (.int i) (.tuple (ns.map PyData.int)) (.bool (decide (i ∈ ns))) := ⟨_, op_in_seq, fun x y H dx dy Q k => by
  cases dx
  obtain ⟨r, xs, rfl, hx, hxs⟩ := dp_tup dy
  obtain rfl := dpa_ints_eq hxs
  exact ⟨r, _, rfl, .inr hx, rfl, flat_ints ns, by
    show Q (.bl (inV (.int i) (ns.map V.int))) H
    rw [inV_ints]
    exact k _ H (Ex.refl H) (.bl _)⟩⟩
theorem od_notInT {i : Int} {ns : List Int} : OD X (compareOp .NotIn) (.int i) (.tuple (ns.map PyData.int)) (.bool (!decide (i ∈ ns))) := ⟨_, op_notIn_seq, fun x y H dx dy Q k => by
  cases dx
  obtain ⟨r, xs, rfl, hx, hxs⟩ := dp_tup dy
  obtain rfl := dpa_ints_eq hxs
  exact ⟨r, _, rfl, .inr hx, rfl, flat_ints ns, by
    show Q (.bl (!inV (.int i) (ns.map V.int))) H
    rw [inV_ints]
    exact k _ H (Ex.refl H) (.bl _)⟩⟩
def isNone : PyData → Bool
  | .none => true
  | _ => false
theorem non_iff {v : V} (h : Dp X.K H v d) : decide (v = .non) = isNone d := by
  cases h <;> simp [isNone]
theorem od_isN : OD X (compareOp .Is) d .none (.bool (isNone d)) := ⟨_, op_isN, fun x y H dx dy Q k => by
  cases dy
  refine ⟨rfl, ?_⟩
  rw [non_iff dx]
  exact k _ H (Ex.refl H) (.bl _)⟩
theorem od_notN : OD X (compareOp .IsNot) d .none (.bool (!isNone d)) := ⟨_, op_notN, fun x y H dx dy Q k => by
  cases dy
  refine ⟨rfl, ?_⟩
  rw [non_iff dx]
  exact k _ H (Ex.refl H) (.bl _)⟩
/-! subscripts, slices -/
theorem atI_dpa {i : Int} {xs : List V} {ds : List PyData} (h : DpAll X.K H xs ds) (ha : atI ds i = some d) : ∃ v, atI xs i = some v ∧ Dp X.K H v d := by
  unfold atI at ha ⊢
  rw [dpa_len h]
  cases e : ixN ds.length i with
  | none => rw [e] at ha; cases ha
  | some j =>
    rw [e] at ha
    obtain ⟨v, h1, h2⟩ := dpa_at h (show ds[j]? = some d from ha)
    exact ⟨v, h1, h2⟩
theorem ed_ixT {i : Int} (ha : ED X a σ H (.tuple ds)) (hb : ED X b σ H (.int i)) (h : atI ds i = some d) (hs : PlainIx b := by intro _ _; rfl) : ED X (.Subscript a b pos) σ H d := fun H1 q Q k =>
  of_pe (pe_ix ix_tup (pe_run a) (pe_run b) hs) (ha H1 q _ fun x H2 q2 dx => hb H2 (q.trans q2) _ fun y H3 q3 dy => by
    cases dy
    obtain ⟨r, xs, rfl, hx, hxs⟩ := dp_tup (q3.dp dx)
    obtain ⟨v, h1, h2⟩ := atI_dpa hxs h
    exact ⟨r, xs, i, v, rfl, rfl, hx, h1, k v H3 (q2.trans q3) h2⟩)
theorem ed_ixL {i : Int} (ha : ED X a σ H (.list ds)) (hb : ED X b σ H (.int i)) (h : atI ds i = some d) (hs : PlainIx b := by intro _ _; rfl) : ED X (.Subscript a b pos) σ H d := fun H1 q Q k =>
  of_pe (pe_ix ix_list (pe_run a) (pe_run b) hs) (ha H1 q _ fun x H2 q2 dx => hb H2 (q.trans q2) _ fun y H3 q3 dy => by
    cases dy
    obtain ⟨r, xs, rfl, hx, hxs⟩ := dp_lst (q3.dp dx)
    obtain ⟨v, h1, h2⟩ := atI_dpa hxs h
    exact ⟨r, xs, i, v, rfl, rfl, hx, h1, k v H3 (q2.trans q3) h2⟩)
def cuD (ds : List PyData) (lo hi : Option Int) : List PyData := (ds.drop (HT.sIx ds.length 0 lo)).take (HT.sIx ds.length ds.length hi - HT.sIx ds.length 0 lo)
theorem cut_dpa {xs : List V} (h : DpAll X.K H xs ds) (lo hi : Option Int) : DpAll X.K H (cutV xs lo hi) (cuD ds lo hi) := by
  unfold cutV cuD
  rw [dpa_len h]
  exact dpa_take _ (dpa_drop _ h)
theorem eo_none : EO X none σ H none := fun H1 q Q k => of_po po_none (k H1 (Ex.refl H1))
theorem eo_some {i : Int} (h : ED X e σ H (.int i)) : EO X (some e) σ H (some i) := fun H1 q Q k => of_po (po_some (pe_run e)) (h H1 q _ fun v H2 q2 dv => ⟨i, dp_int dv, k H2 q2⟩)
theorem ed_slT {lo hi : Option Expr} {p2 : Pos} {i j : Option Int} (ha : ED X a σ H (.tuple ds)) (hl : EO X lo σ H i) (hh : EO X hi σ H j) : ED X (.Subscript a (.Slice lo hi none p2) pos) σ H (.tuple (cuD ds i j)) := fun H1 q Q k =>
  of_pe (pe_slice sl_tupA (pe_run a) (po_run lo) (po_run hi)) (ha H1 q _ fun x H2 q2 dx => hl H2 (q.trans q2) _ fun H3 q3 => hh H3 ((q.trans q2).trans q3) _ fun H4 q4 => by
    obtain ⟨r, xs, rfl, hx, hxs⟩ := dp_tup ((q3.trans q4).dp dx)
    have hc := cut_dpa hxs i j
    refine ⟨r, xs, rfl, hx, fun hw => ?_, fun hw p hp => k _ _ (((q2.trans q3).trans q4).trans (Ex.new hp)) (.tup (st_of upd_same) ((Ex.new hp).dpa hc))⟩
    have e : cutV xs i j = xs := by
      unfold cutV
      rw [hw.1, hw.2]
      simp
    rw [e] at hc
    exact k _ H4 ((q2.trans q3).trans q4) (.tup hx hc))
theorem el_slL {lo hi : Option Expr} {p2 : Pos} {i j : Option Int} (ha : ED X a σ H (.list ds)) (hl : EO X lo σ H i) (hh : EO X hi σ H j) : EL X (.Subscript a (.Slice lo hi none p2) pos) σ H (cuD ds i j) := fun H1 q Q k =>
  of_pe (pe_slice sl_list (pe_run a) (po_run lo) (po_run hi)) (ha H1 q _ fun x H2 q2 dx => hl H2 (q.trans q2) _ fun H3 q3 => hh H3 ((q.trans q2).trans q3) _ fun H4 q4 => by
    obtain ⟨r, xs, rfl, hx, hxs⟩ := dp_lst ((q3.trans q4).dp dx)
    have hc := cut_dpa hxs i j
    exact ⟨r, xs, rfl, hx, fun p hp => k p _ _ (fresh_back ((q2.trans q3).trans q4) hp) (((q2.trans q3).trans q4).trans (Ex.new hp)) upd_same ((Ex.new hp).dpa hc)⟩)
end
end KD

/-! enumerate of a tuple -/
namespace KD
open PySem PySem.Spec PyProof.Rows L2 Evl
open AutoSeq1 (wpAny_loadPart')
theorem meets_enumT {v : Value} {o : Obj} {H : Heap → Prop} (B : Begins v o H) :
    Meets (Builtin.«enumerate.__new__» ⟨[.type "enumerate", v], []⟩) (fun _ R s => H s.heap ∧
      R (.ok (.ret (.ref (s.heap.push o).objs.size))) { s with heap := (s.heap.push o).push { cls := .type "enumerate", data := .fields #[.none, .bool false, .ref s.heap.objs.size, rawInt 0, .none, .none] } }) :=
  .of_wp fun prog w A R s h => by
    obtain ⟨hp, gn, dr, tks, osx⟩ := s; obtain ⟨h1, h⟩ := h
    have subs := sub_enumerate
    have walk : ∀ {A' : Around} {E : Value → Shared → Prop} {Q : Value → Shared → Prop}, Q (.ref hp.objs.size) ⟨hp.push o, gn, dr, tks, osx⟩ → wpAny (model prog w) A' (pyIter v) Q E ⟨hp, gn, dr, tks, osx⟩ :=
      fun q => B.iter prog w _ _ ⟨hp, gn, dr, tks, osx⟩ _ h1 q
    wp_walk using walk
    refine wpAny_stack_any fun stt => wpAny_pure ?_
    split
    · rename_i c _ _ _ _ _
      cases (c == Value.type "enumerate")
      · wp_walk using walk
        exact ⟨_, rfl, h⟩
      · wp_walk using walk
        exact ⟨_, rfl, h⟩
    · wp_walk using walk
      exact ⟨_, rfl, h⟩
theorem call_enumT {prog : Program} {w : World} {A : Around} {E : Value → Shared → Prop} {s : Shared} {v : Value} {o : Obj} {H : Heap → Prop} {Q : Value → Shared → Prop} (B : Begins v o H) (h1 : H s.heap)
    (h : ∀ h', IsEnum h' (s.heap.objs.size + 1) s.heap.objs.size 0 .none → h'.get? s.heap.objs.size = some o → h'.objs.size = s.heap.objs.size + 2 →
      (∀ b o, s.heap.get? b = some o → h'.get? b = some o) → Q (.ref (s.heap.objs.size + 1)) { s with heap := h' }) :
    wpAny (model prog w) A (call (.type "enumerate") [v]) Q E s := by
  refine callType_new F.called_enumerate (by decide) (F.typeCall_enumerate_1 _) (F.newCall_enumerate_1 _) (fun obj => F.args_object_init_2 obj _) F.entry_enumerate_new
    (meets_enumT B) ⟨h1, ?_⟩
  have hsz : (s.heap.push o).objs.size = s.heap.objs.size + 1 := Heap.size_push ..
  show _ ∧ _
  rw [hsz]
  have enO : IsEnum ((s.heap.push o).push { cls := .type "enumerate", data := .fields #[.none, .bool false, .ref s.heap.objs.size, rawInt 0, .none, .none] }) (s.heap.objs.size + 1) s.heap.objs.size 0 .none := by
    have := Heap.get?_push_size (s.heap.push o) (o := { cls := .type "enumerate", data := .fields #[.none, .bool false, .ref s.heap.objs.size, rawInt 0, .none, .none] }) rfl
    rw [hsz] at this; exact this
  refine ⟨⟨_, enO, rfl⟩, h _ enO (Heap.get?_push_of_some _ (Heap.get?_push_size _ B.free)) (by rw [Heap.size_push, hsz]) fun b o x => Heap.get?_push_of_some _ (Heap.get?_push_of_some _ x)⟩
/-- the tuple at a as it stands at each turn, each item in a new pair -/
def IteT (K : PySem.W.Frag) (a : Addr) : It :=
  ⟨fun i H => ∃ (xs : List V) (x : V), SqT K H a xs ∧ xs[i]? = some x, fun i H v H' => ∃ T x, v = .ref T ∧ H T = none ∧ H' = upd H T (.tup [.int (i : Nat), x]) ∧ ∀ xs, SqT K H a xs → xs[i]? = some x, fun i H => ∃ xs : List V, SqT K H a xs ∧ xs.length ≤ i⟩
theorem turn_enumT {P : Program} {w : World} {K : PySem.W.Frag} {elts : List Expr} {kk : Nat} {tpos : Pos} (a e it : Addr) :
    Turn P w K (.Tuple elts kk tpos) (IteT K a) [e, it] e (fun i h => (∃ old, IsEnum h e it ((i : Nat) : Int) old) ∧ h.IsTupleIter it a i ∧ e ≠ it ∧ (a ≠ e ∧ a ≠ it)) where
  mem := by simp
  obj := fun i h stt b hb => by
    obtain ⟨⟨old, enO⟩, ⟨o, atO, cal, datO⟩, _⟩ := stt
    have which : b = e ∨ b = it := by simpa using hb
    rcases which with z | z
    · rw [z]; exact ⟨_, enO, fun v q => nomatch q⟩
    · rw [z]; exact ⟨o, atO, fun v q => by rw [datO] at q; cases q⟩
  keep := fun i h h' stt k => let ⟨⟨old, enO⟩, hi, apart⟩ := stt; ⟨⟨old, k e (by simp) _ enO⟩, hi.at fun o q => k it (by simp) o q, apart⟩
  item := by
    intro X eqP eqw eqK cal i pins s σ H E I fresh stt holds
    subst eqP eqw eqK
    obtain ⟨⟨old, enO⟩, itO, apart, neE, neI⟩ := stt
    obtain ⟨xs, x, sq, atX⟩ := holds
    obtain ⟨items, rels, p, hsz⟩ := I.tuple sq
    obtain ⟨u, atU, relU⟩ := rels.get atX
    have ltE : e < s.heap.objs.size := Heap.lt_size enO
    have ltI : it < s.heap.objs.size := by obtain ⟨_, q, _⟩ := itO; exact Heap.lt_size q
    have ltN : i < items.toArray.size := by
      rw [List.size_toArray]
      exact (List.getElem?_eq_some_iff.mp atU).1
    have D := Draws.tuple (prog := X.prog) (w := X.w) (A := X.A.in1) (I.ok.hd cal) it a neI items.toArray
    refine wpAny_pyNext_enum_itemD D enO ⟨itO, (show s.heap.IsTuple a items.toArray from p)⟩ ltN apart (by simp [apart, Ne.symm neE]) fun x' h' tks eqP atO stt2 tyE szs kept => ?_
    have same : x' = u := by
      have h1 : items.toArray[i]? = some x' := eqP
      rw [List.getElem?_toArray, atU] at h1
      exact (Option.some.inj h1).symm
    subst same
    refine ⟨_, rfl, wpAny_letOwnedTupleGo_enum (s := { s with heap := h', toks := tks + 1 }) atO fun h'' enO2 only => ?_⟩
    have atT : h''.get? s.heap.objs.size = some { cls := .type "tuple", data := .seq #[.int i tks, x'] } := (only.2 _ (Nat.ne_of_gt ltE)).trans tyE
    have okNew : ObjOk X.prog X.w (upd H s.heap.objs.size (.tup [.int (i : Nat), x])) h'' s.heap.objs.size (.tup [.int (i : Nat), x]) :=
      ⟨by show 2 ≤ sizeLine; decide, [.int i tks, x'], .cons ⟨_, rfl⟩ (.cons relU .nil), ⟨_, atT, rfl, _, rfl⟩⟩
    have J1 : Inv X pins σ (upd H s.heap.objs.size (.tup [.int (i : Nat), x])) { s with heap := h'', toks := tks + 1 } :=
      I.turnedNew (ch := [e, it]) (fun b ob hb q => (only.2 b (fun z => hb (by simp [z]))).trans (kept b ob (fun z => hb (by simp [z])) (fun z => hb (by simp [z])) q)) fresh (Nat.le_refl _) okNew
    refine ⟨.ref s.heap.objs.size, _, J1, rfl, ⟨_, x, rfl, I.hok.fresh (Nat.le_refl _), rfl, fun ys hy => by rw [I.tuple_inj hy sq]; exact atX⟩, ⟨⟨x', ?_⟩, stt2.1.at fun o q => (only.2 it (Ne.symm apart)).trans q, apart, neE, neI⟩, fun b hb => ?_⟩
    · have e1 : ((i + 1 : Nat) : Int) = (i : Int) + 1 := by omega
      rw [e1]; exact enO2
    · have ltB : b < s.heap.objs.size := by
        have which : b = e ∨ b = it := by simpa using hb
        rcases which with z | z
        · rw [z]; exact ltE
        · rw [z]; exact ltI
      rw [upd_ne (Nat.ne_of_lt ltB)]
      exact (fresh b hb).1
  done := by
    intro X eqP eqw eqK cal i pins s σ H E I fresh stt holds
    subst eqP eqw eqK
    obtain ⟨⟨old, enO⟩, itO, apart, neE, neI⟩ := stt
    obtain ⟨xs, sq, atX⟩ := holds
    obtain ⟨items, rels, p, hsz⟩ := I.tuple sq
    obtain ⟨f0, f1, f2, f3, f4, f5⟩ := fresh it (by simp)
    have hl := rels.length
    have tyE : s.TypeIs (.ref e) "enumerate" := ⟨_, enO, rfl⟩
    unfold pyNext
    refine wpAny_bind (wpAny_attempt (wpAny_callSpecial?_slot (name := Str.ofString "__next__") tyE F.slot_enumerate_next
      (wpAny_call_entry F.slot_enumerate_next tyE F.entry_enumerate_next ?_ (F.args_enumerate_next_1 _))))
    show wpAny _ _ (field (.ref e) 2 >>= _) _ _ _
    refine wpAny_bind (wpAny_field enO rfl (x := .ref it) rfl ?_)
    refine wpAny_bind (wpAny_nextOf_tuple_end (A := X.A.in1) (I.ok.hd cal) itO (show s.heap.IsTuple a items.toArray from p) (by simp; omega) fun h' x enO2 hx' => ?_)
    obtain ⟨o, atO, hc2⟩ := hx'
    refine wpAny_bind (wpAny_isInstance (T := "StopIteration") (b := true) ⟨o, atO, hc2⟩ isSubtype_stop ?_)
    exact wpAny_pure ⟨rfl, I.turned (t' := s.toks) (fun b o hb q => enO2 b o hb q) f0 f1 f3 f4 f5⟩
  self := fun A i s Q E stt h => let ⟨⟨_, enO⟩, _⟩ := stt; wpAny_pyIter_enum enO h
def iEnumT (K : PySem.W.Frag) (ta : TA) : TI := fun σ H R => ta σ H fun vs H1 => ∃ a xs, vs = [.ref a] ∧ SqT K H1 a xs ∧ R (IteT K a) H1
theorem pi_enumT {X : Cx} {e : Expr} {ta : TA} {p pos tpos : Pos} {elts : List Expr} {kk : Nat} (holds : Gl X "enumerate") (hm : X.mg "enumerate" = none) (ha : PA X [e] ta) (hs : starEach [e] X.env = [(false, eval e X.env)] := by rfl) :
    PI X (.Tuple elts kk tpos) (.Call (.Name "enumerate" p) [e] [] pos) (iEnumT X.K ta) := by
  refine ⟨fun pins s σ H R I h => ?_⟩
  refine Call_ (ld_blt I holds hm boot_enumerate (PyProof.Rows.callWith_type1 (thn (ha.run pos pins s σ H _ I h) fun us s1 ⟨vs, H1, J1, r1, walk⟩ => ?_) hs rfl))
  obtain ⟨a, xs, same, sq, q⟩ := walk
  subst same
  cases r1 with
  | cons r rr =>
    cases rr
    cases r
    obtain ⟨items, rels, p', hsz⟩ := J1.tuple sq
    have ltN : a < s1.heap.objs.size := by
      obtain ⟨o, atO, _⟩ := id p'
      exact Heap.lt_size atO
    refine call_enumT (begins_tuple a items.toArray) (show s1.heap.IsTuple a items.toArray from p') fun h' enO itO szs kept => wpAny_pyIter_enum enO ?_
    have J2 : Inv X pins σ H1 { s1 with heap := h' } := J1.kept (t' := s1.toks) kept
    refine ⟨s1.heap.objs.size + 1, [s1.heap.objs.size + 1, s1.heap.objs.size], _, _, H1, rfl, J2, turn_enumT a (s1.heap.objs.size + 1) s1.heap.objs.size, ⟨⟨.none, enO⟩, ⟨_, itO, rfl, rfl⟩, Nat.succ_ne_self _, Nat.ne_of_lt (Nat.lt_succ_of_lt ltN), Nat.ne_of_lt ltN⟩, fun b hb => ?_, q⟩
    have which : b = s1.heap.objs.size + 1 ∨ b = s1.heap.objs.size := by simpa using hb
    have leB : s1.heap.objs.size ≤ b := by
      rcases which with z | z
      · rw [z]; exact Nat.le_add_right _ _
      · rw [z]; exact Nat.le_refl _
    exact J1.fpOk leB (J1.hok.fresh leB)
end KD

namespace KD
open PySem PySem.Spec PyProof.Rows L2 Evl

/-! ### data without lists stay where tuples stay -/
mutual
def noL : PyData → Bool
  | .list _ => false
  | .dict _ => false
  | .tuple ds => noLs ds
  | _ => true
def noLs : List PyData → Bool
  | [] => true
  | d :: ds => noL d && noLs ds
end
theorem noLs_iff : ∀ {ds : List PyData}, noLs ds = true ↔ ∀ d ∈ ds, noL d = true
  | [] => by simp [noLs]
  | d :: ds => by
    rw [noLs, Bool.and_eq_true, noLs_iff (ds := ds)]
    simp
theorem noLs_ints (ns : List Int) : noLs (ns.map PyData.int) = true := noLs_iff.mpr fun d h => by
  obtain ⟨n, _, rfl⟩ := List.mem_map.mp h
  rfl
theorem noLs_bools (ns : List Bool) : noLs (ns.map PyData.bool) = true := noLs_iff.mpr fun d h => by
  obtain ⟨n, _, rfl⟩ := List.mem_map.mp h
  rfl
theorem noLs_map {α : Type} (f : α → PyData) (h : ∀ a, noL (f a) = true) (l : List α) : noLs (l.map f) = true := noLs_iff.mpr fun d hd => by
  obtain ⟨n, _, rfl⟩ := List.mem_map.mp hd
  exact h n
/-- what may be read as a tuple stays so -/
def ExT (H H' : Hp) : Prop := ∀ a xs, Rd H a (.tup xs) → Rd H' a (.tup xs)
theorem ExT.refl (H : Hp) : ExT H H := fun _ _ h => h
theorem ExT.trans {H H1 H2 : Hp} (a : ExT H H1) (b : ExT H1 H2) : ExT H H2 := fun x o h => b x o (a x o h)
theorem _root_.Evl.Ex.t {H H' : Hp} (e : Ex H H') : ExT H H' := fun _ _ h => ex_rd e h
/-- a list is written -/
theorem ExT.lst {H : Hp} {p : Addr} {xs : List V} {o : HO} (h : H p = some (.lst xs)) : ExT H (upd H p o) := fun a ys r => by
  have ne : a ≠ p := fun z => by
    subst z
    rcases r with r | ⟨u, r⟩
    · rw [h] at r; cases r
    · rw [h] at r; cases r
  rcases r with r | ⟨u, r⟩
  · exact .inl (by rw [upd_ne ne]; exact r)
  · exact .inr ⟨u, by rw [upd_ne ne]; exact r⟩
mutual
theorem dp_exT {K : PySem.W.Frag} {H H' : Hp} (e : ExT H H') : ∀ (d : PyData) (v : V), noL d = true → Dp K H v d → Dp K H' v d
  | .none, _, _, h => by cases h; exact .non
  | .bool b, _, _, h => by cases h; exact .bl b
  | .int i, _, _, h => by cases h; exact .int i
  | .str x, _, _, h => by cases h; exact .str x
  | .list ds, _, n, h => by cases n
  | .tuple ds, _, n, h => by
    cases h with
    | tup hs ha =>
      refine .tup ?_ (dpa_exT e ds _ n ha)
      rcases hs with r | r
      · exact .inl (e _ _ r)
      · exact .inr r
  | .dict _, _, _, h => by cases h
theorem dpa_exT {K : PySem.W.Frag} {H H' : Hp} (e : ExT H H') : ∀ (ds : List PyData) (vs : List V), noLs ds = true → DpAll K H vs ds → DpAll K H' vs ds
  | [], _, _, h => by cases h; exact .nil
  | d :: ds, _, n, h => by
    rw [noLs, Bool.and_eq_true] at n
    cases h with
    | cons h1 h2 => exact .cons (dp_exT e d _ n.1 h1) (dpa_exT e ds _ n.2 h2)
end
/-! ### built-in calls -/
section
variable {X : Cx} {N : List Str} {sc : Scope} {k : Nat} {σ : L2.St} {H H' : Hp} {e a b c : Expr} {es : List Expr} {d d1 d2 d3 : PyData} {ds : List PyData} {x : Str} {pos p : Pos}
theorem dpa1 {K : PySem.W.Frag} {xs : List V} (h : DpAll K H xs [d]) : ∃ v, xs = [v] ∧ Dp K H v d := by
  cases h with
  | cons h1 h2 => cases h2; exact ⟨_, rfl, h1⟩
theorem dpa2 {K : PySem.W.Frag} {xs : List V} (h : DpAll K H xs [d, d1]) : ∃ v u, xs = [v, u] ∧ Dp K H v d ∧ Dp K H u d1 := by
  cases h with
  | cons h1 h2 =>
    cases h2 with
    | cons h3 h4 => cases h4; exact ⟨_, _, rfl, h1, h3⟩
theorem cd_lenT : CD X (.builtin "len") [.tuple ds] (.int ds.length) := ⟨_, call_len_seq, fun xs H hd Q k => by
  obtain ⟨v, rfl, hv⟩ := dpa1 hd
  obtain ⟨r, ys, rfl, hy, hys⟩ := dp_tup hv
  refine ⟨r, ys, rfl, .inr hy, ?_⟩
  rw [dpa_len hys]
  exact k _ H (Ex.refl H) (.int _)⟩
theorem cd_lenL : CD X (.builtin "len") [.list ds] (.int ds.length) := ⟨_, call_len_seq, fun xs H hd Q k => by
  obtain ⟨v, rfl, hv⟩ := dpa1 hd
  obtain ⟨r, ys, rfl, hy, hys⟩ := dp_lst hv
  refine ⟨r, ys, rfl, .inl hy, ?_⟩
  rw [dpa_len hys]
  exact k _ H (Ex.refl H) (.int _)⟩
theorem cd_abs {i : Int} : CD X (.builtin "abs") [.int i] (.int (if i < 0 then -i else i)) := ⟨_, call_abs, fun xs H hd Q k => by
  obtain ⟨v, rfl, hv⟩ := dpa1 hd
  cases hv
  exact ⟨i, rfl, k _ H (Ex.refl H) (.int _)⟩⟩
theorem cd_max {i j : Int} [C : Cn X N sc k] : CD X (.builtin "max") [.int i, .int j] (.int (if j > i then j else i)) := ⟨_, call_max2 C.calm, fun xs H hd Q k => by
  obtain ⟨v, u, rfl, hv, hu⟩ := dpa2 hd
  cases hv
  cases hu
  exact ⟨i, j, rfl, k _ H (Ex.refl H) (.int _)⟩⟩
theorem cd_min {i j : Int} [C : Cn X N sc k] : CD X (.builtin "min") [.int i, .int j] (.int (if j < i then j else i)) := ⟨_, call_min2 C.calm, fun xs H hd Q k => by
  obtain ⟨v, u, rfl, hv, hu⟩ := dpa2 hd
  cases hv
  cases hu
  exact ⟨i, j, rfl, k _ H (Ex.refl H) (.int _)⟩⟩
theorem cd_int {i : Int} : CD X (.type "int") [.int i] (.int i) := ⟨_, call_int1, fun xs H hd Q k => by
  obtain ⟨v, rfl, hv⟩ := dpa1 hd
  cases hv
  exact .inl ⟨i, rfl, k _ H (Ex.refl H) (.int _)⟩⟩
theorem cd_intb {t : Bool} : CD X (.type "int") [.bool t] (.int (if t then 1 else 0)) := ⟨_, call_int1, fun xs H hd Q k => by
  obtain ⟨v, rfl, hv⟩ := dpa1 hd
  cases hv
  exact .inr ⟨t, rfl, k _ H (Ex.refl H) (.int _)⟩⟩
theorem cd_tupL : CD X (.type "tuple") [.list ds] (.tuple ds) := ⟨_, call_tuple_of, fun xs H hd Q k => by
  obtain ⟨v, rfl, hv⟩ := dpa1 hd
  obtain ⟨r, ys, rfl, hy, hys⟩ := dp_lst hv
  exact ⟨r, ys, rfl, .inl ⟨hy, fun l hl => k _ _ (Ex.new hl) (.tup (st_of upd_same) ((Ex.new hl).dpa hys))⟩⟩⟩
theorem cd_all [C : Cn X N sc k] {bs : List Bool} : CD X (.builtin "all") [.list (bs.map PyData.bool)] (.bool (bs.all id)) := ⟨_, cr_all C.calm, fun xs H hd Q k => by
  obtain ⟨v, rfl, hv⟩ := dpa1 hd
  obtain ⟨r, ys, rfl, hy, hys⟩ := dp_lst hv
  obtain rfl := dpa_bls_eq hys
  exact ⟨r, bs, rfl, hy, k _ H (Ex.refl H) (.bl _)⟩⟩
theorem cd_any [C : Cn X N sc k] {bs : List Bool} : CD X (.builtin "any") [.list (bs.map PyData.bool)] (.bool (bs.any id)) := ⟨_, cr_any C.calm, fun xs H hd Q k => by
  obtain ⟨v, rfl, hv⟩ := dpa1 hd
  obtain ⟨r, ys, rfl, hy, hys⟩ := dp_lst hv
  obtain rfl := dpa_bls_eq hys
  exact ⟨r, bs, rfl, hy, k _ H (Ex.refl H) (.bl _)⟩⟩
theorem ed_len [C : Cn X N sc k] [B : Bl X.mg] (ha : ED X e σ H (.tuple ds)) (hs : glB sc "len" = true := by decide +kernel) (he : starEach [e] X.env = (false, eval e X.env) :: starEach [] X.env := by rfl) : ED X (.Call (.Name "len" p) [e] [] pos) σ H (.int ds.length) :=
  ed_callB cd_lenT B.len PySem.boot_len (ea_cons ha ea_nil he) hs he rfl
theorem ed_lenL [C : Cn X N sc k] [B : Bl X.mg] (ha : ED X e σ H (.list ds)) (hs : glB sc "len" = true := by decide +kernel) (he : starEach [e] X.env = (false, eval e X.env) :: starEach [] X.env := by rfl) : ED X (.Call (.Name "len" p) [e] [] pos) σ H (.int ds.length) :=
  ed_callB cd_lenL B.len PySem.boot_len (ea_cons ha ea_nil he) hs he rfl
theorem ed_abs [C : Cn X N sc k] [B : Bl X.mg] {i : Int} (ha : ED X e σ H (.int i)) (hs : glB sc "abs" = true := by decide +kernel) (he : starEach [e] X.env = (false, eval e X.env) :: starEach [] X.env := by rfl) : ED X (.Call (.Name "abs" p) [e] [] pos) σ H (.int (if i < 0 then -i else i)) :=
  ed_callB cd_abs B.abs boot_abs (ea_cons ha ea_nil he) hs he rfl
theorem ed_toI [C : Cn X N sc k] [B : Bl X.mg] {i : Int} (ha : ED X e σ H (.int i)) (hs : glB sc "int" = true := by decide +kernel) (he : starEach [e] X.env = (false, eval e X.env) :: starEach [] X.env := by rfl) : ED X (.Call (.Name "int" p) [e] [] pos) σ H (.int i) :=
  ed_callTy cd_int B.int boot_int (ea_cons ha ea_nil he) hs he rfl
theorem ed_toB [C : Cn X N sc k] [B : Bl X.mg] {t : Bool} (ha : ED X e σ H (.bool t)) (hs : glB sc "int" = true := by decide +kernel) (he : starEach [e] X.env = (false, eval e X.env) :: starEach [] X.env := by rfl) : ED X (.Call (.Name "int" p) [e] [] pos) σ H (.int (if t then 1 else 0)) :=
  ed_callTy cd_intb B.int boot_int (ea_cons ha ea_nil he) hs he rfl
theorem ed_max [C : Cn X N sc k] [B : Bl X.mg] {i j : Int} (ha : ED X a σ H (.int i)) (hb : ED X b σ H (.int j)) (hs : glB sc "max" = true := by decide +kernel) (he : starEach [a, b] X.env = (false, eval a X.env) :: starEach [b] X.env := by rfl) (he2 : starEach [b] X.env = (false, eval b X.env) :: starEach [] X.env := by rfl)
    (hpl : (backTo pos (starEach [b] X.env)).any (·.1) = false := by rfl) : ED X (.Call (.Name "max" p) [a, b] [] pos) σ H (.int (if j > i then j else i)) := ed_callB cd_max B.max boot_max (ea_cons ha (ea_cons hb ea_nil he2) he) hs he hpl
theorem ed_min [C : Cn X N sc k] [B : Bl X.mg] {i j : Int} (ha : ED X a σ H (.int i)) (hb : ED X b σ H (.int j)) (hs : glB sc "min" = true := by decide +kernel) (he : starEach [a, b] X.env = (false, eval a X.env) :: starEach [b] X.env := by rfl) (he2 : starEach [b] X.env = (false, eval b X.env) :: starEach [] X.env := by rfl)
    (hpl : (backTo pos (starEach [b] X.env)).any (·.1) = false := by rfl) : ED X (.Call (.Name "min" p) [a, b] [] pos) σ H (.int (if j < i then j else i)) := ed_callB cd_min B.min boot_min (ea_cons ha (ea_cons hb ea_nil he2) he) hs he hpl
theorem ed_tupL [C : Cn X N sc k] [B : Bl X.mg] (ha : ED X e σ H (.list ds)) (hs : glB sc "tuple" = true := by decide +kernel) (he : starEach [e] X.env = (false, eval e X.env) :: starEach [] X.env := by rfl) : ED X (.Call (.Name "tuple" p) [e] [] pos) σ H (.tuple ds) :=
  ed_callTy cd_tupL B.tuple boot_tuple (ea_cons ha ea_nil he) hs he rfl
theorem ed_all [C : Cn X N sc k] [B : Bl X.mg] {bs : List Bool} (ha : ED X e σ H (.list (bs.map PyData.bool))) (hs : glB sc "all" = true := by decide +kernel) (he : starEach [e] X.env = (false, eval e X.env) :: starEach [] X.env := by rfl) : ED X (.Call (.Name "all" p) [e] [] pos) σ H (.bool (bs.all id)) :=
  ed_callB cd_all B.all boot_all (ea_cons ha ea_nil he) hs he rfl
theorem ed_any [C : Cn X N sc k] [B : Bl X.mg] {bs : List Bool} (ha : ED X e σ H (.list (bs.map PyData.bool))) (hs : glB sc "any" = true := by decide +kernel) (he : starEach [e] X.env = (false, eval e X.env) :: starEach [] X.env := by rfl) : ED X (.Call (.Name "any" p) [e] [] pos) σ H (.bool (bs.any id)) :=
  ed_callB cd_any B.any boot_any (ea_cons ha ea_nil he) hs he rfl
theorem el_list [C : Cn X N sc k] [B : Bl X.mg] (ha : ED X e σ H (.list ds)) (hs : glB sc "list" = true := by decide +kernel) (he : starEach [e] X.env = (false, eval e X.env) :: starEach [] X.env := by rfl) : EL X (.Call (.Name "list" p) [e] [] pos) σ H ds := fun H1 q Q kk =>
  of_pe (pe_callTy call_list_of (C.gl _ (glB_of hs).1) B.list boot_list (pa_run _) (glB_of hs).2.2 (glB_of hs).2.1 he rfl) ((ea_cons ha ea_nil he) H1 q _ fun vs H2 q2 dvs => by
    obtain ⟨v, rfl, hv⟩ := dpa1 dvs
    obtain ⟨r, ys, rfl, hy, hys⟩ := dp_lst hv
    exact ⟨r, ys, rfl, .inl hy, fun l hl => kk l ys _ (fresh_back q2 hl) (q2.trans (Ex.new hl)) upd_same ((Ex.new hl).dpa hys)⟩)
/-- list(range(n)), list(range(a, b)), tuple(range(n)) -/
def rgD (a b : Int) : List PyData := (List.range (b - a).toNat).map fun i => PyData.int (a + (i : Nat))
theorem rg_dpa {K : PySem.W.Frag} {H : Hp} (a b : Int) : DpAll K H (rgV a b) (rgD a b) := by
  unfold rgV rgD
  generalize List.range (b - a).toNat = l
  induction l with
  | nil => exact .nil
  | cons i l ih => exact .cons (.int _) ih
theorem el_listR1 [C : Cn X N sc k] [B : Bl X.mg] {n : Int} {p2 pos2 : Pos} (ha : ED X e σ H (.int n)) (hz : RgOk 0 n) (hs : glB sc "list" = true := by decide +kernel) (hs2 : glB sc "range" = true := by decide +kernel) (he : starEach [e] X.env = (false, eval e X.env) :: starEach [] X.env := by rfl) :
    EL X (.Call (.Name "list" p) [.Call (.Name "range" p2) [e] [] pos2] [] pos) σ H (rgD 0 n) := fun H1 q Q kk =>
  of_pe (pe_listRg C.calm (C.gl _ (glB_of hs).1) B.list (prg_1 (C.gl _ (glB_of hs2).1) B.range (pe_run e) he)) (ha H1 q _ fun v H2 q2 dv => ⟨n, dp_int dv, hz, fun l hl => kk l _ _ (fresh_back q2 hl) (q2.trans (Ex.new hl)) upd_same (rg_dpa 0 n)⟩)
theorem ed_tupR1 [C : Cn X N sc k] [B : Bl X.mg] {n : Int} {p2 pos2 : Pos} (ha : ED X e σ H (.int n)) (hz : RgOk 0 n) (hs : glB sc "tuple" = true := by decide +kernel) (hs2 : glB sc "range" = true := by decide +kernel) (he : starEach [e] X.env = (false, eval e X.env) :: starEach [] X.env := by rfl) :
    ED X (.Call (.Name "tuple" p) [.Call (.Name "range" p2) [e] [] pos2] [] pos) σ H (.tuple (rgD 0 n)) := fun H1 q Q kk =>
  of_pe (pe_tupRg C.calm (C.gl _ (glB_of hs).1) B.tuple (prg_1 (C.gl _ (glB_of hs2).1) B.range (pe_run e) he)) (ha H1 q _ fun v H2 q2 dv => ⟨n, dp_int dv, hz, fun l hl => kk _ _ (q2.trans (Ex.new hl)) (.tup (st_of upd_same) (rg_dpa 0 n))⟩)
theorem el_listR2 [C : Cn X N sc k] [B : Bl X.mg] {m n : Int} {p2 pos2 : Pos} (ha : ED X a σ H (.int m)) (hb : ED X b σ H (.int n)) (hz : RgOk m n) (hs : glB sc "list" = true := by decide +kernel) (hs2 : glB sc "range" = true := by decide +kernel)
    (he : starEach [a, b] X.env = (false, eval a X.env) :: starEach [b] X.env := by rfl) (he2 : starEach [b] X.env = (false, eval b X.env) :: starEach [] X.env := by rfl) (hpl : (backTo pos2 (starEach [b] X.env)).any (·.1) = false := by rfl) :
    EL X (.Call (.Name "list" p) [.Call (.Name "range" p2) [a, b] [] pos2] [] pos) σ H (rgD m n) := fun H1 q Q kk =>
  of_pe (pe_listRg C.calm (C.gl _ (glB_of hs).1) B.list (prg_2 (C.gl _ (glB_of hs2).1) B.range (pe_run a) (pe_run b) he he2 hpl)) (ha H1 q _ fun v H2 q2 dv => hb H2 (q.trans q2) _ fun u H3 q3 du => ⟨m, n, dp_int dv, dp_int du, hz, fun l hl => kk l _ _ (fresh_back (q2.trans q3) hl) ((q2.trans q3).trans (Ex.new hl)) upd_same (rg_dpa m n)⟩)
/-- isinstance -/
def tyD : PyData → String
  | .none => "NoneType"
  | .bool _ => "bool"
  | .int _ => "int"
  | .str _ => "str"
  | .list _ => "list"
  | .tuple _ => "tuple"
  | .dict _ => "dict"
theorem tyX_of {K : PySem.W.Frag} {v : V} (h : Dp K H v d) : TyX K H v (.type (tyD d)) := by
  cases h with
  | non => exact .base .non
  | bl b => exact .base (.bl b)
  | int i => exact .base (.int i)
  | str x => exact .base (.str x)
  | lst hs _ =>
    rcases hs with (r | ⟨o, r⟩) | ⟨o, _, _, e, c, _⟩
    · exact .base (.lst r)
    · exact .base (.frz r)
    · exact .kList e c
  | tup hs _ =>
    rcases hs with (r | ⟨o, r⟩) | ⟨o, _, _, e, c, _⟩
    · exact .base (.tup r)
    · exact .fTuple r
    · exact .kTuple e c
theorem ed_isi [C : Cn X N sc k] [B : Bl X.mg] {T : Str} {n : String} {p2 : Pos} (ty : String) (t : Bool) (ha : ED X e σ H d) (hm : X.mg T = none) (hv : bootBuiltins T = some (.type n)) (hty : tyD d = ty := by rfl) (hk : kitB ty n = some t := by decide +kernel)
    (hs : glB sc "isinstance" = true := by decide +kernel) (hs2 : glB sc T = true := by decide +kernel) (he : starEach [e, .Name T p2] X.env = (false, eval e X.env) :: starEach [.Name T p2] X.env := by rfl) : ED X (.Call (.Name "isinstance" p) [e, .Name T p2] [] pos) σ H (.bool t) := fun H1 q Q kk =>
  of_pe (pe_callB call_isi (C.gl _ (glB_of hs).1) B.isinstance boot_isinstance (pa_cons (pe_run e) (pa_cons (pe_bltn (v := .ty n) (C.gl _ (glB_of hs2).1) hm hv rfl (glB_of hs2).2.2 (glB_of hs2).2.1) pa_nil) he) (glB_of hs).2.2 (glB_of hs).2.1 he rfl)
    (ha H1 q _ fun v H2 q2 dv => ⟨v, .ty n, _, _, t, rfl, .ty n, tyX_of dv, kit_ty (by rw [hty]; exact hk), kk _ H2 q2 (.bl _)⟩)
/-- sorted of ints: the one result -/
def ins (x : Int) : List Int → List Int
  | [] => [x]
  | y :: r => if x ≤ y then x :: y :: r else y :: ins x r
def srt : List Int → List Int
  | [] => []
  | x :: r => ins x (srt r)
theorem ins_perm (x : Int) : ∀ l, (ins x l).Perm (x :: l)
  | [] => .refl _
  | y :: r => by
    unfold ins
    split
    · exact .refl _
    · exact ((ins_perm x r).cons y).trans (.swap _ _ _)
theorem srt_perm : ∀ l, (srt l).Perm l
  | [] => .refl _
  | x :: r => (ins_perm x (srt r)).trans ((srt_perm r).cons x)
theorem ins_sorted (x : Int) : ∀ l : List Int, l.Pairwise (· ≤ ·) → (ins x l).Pairwise (· ≤ ·)
  | [], _ => by simp [ins]
  | y :: r, h => by
    unfold ins
    have h' := List.pairwise_cons.mp h
    split
    · rename_i hxy
      refine List.pairwise_cons.mpr ⟨fun z hz => ?_, h⟩
      rcases List.mem_cons.mp hz with rfl | hz
      · exact hxy
      · exact Int.le_trans hxy (h'.1 z hz)
    · rename_i hxy
      refine List.pairwise_cons.mpr ⟨fun z hz => ?_, ins_sorted x r h'.2⟩
      rcases List.mem_cons.mp ((ins_perm x r).mem_iff.mp hz) with rfl | hz
      · omega
      · exact h'.1 z hz
theorem srt_sorted : ∀ l, (srt l).Pairwise (· ≤ ·)
  | [] => .nil
  | x :: r => ins_sorted x _ (srt_sorted r)
theorem sorted_one : ∀ {a b : List Int}, a.Perm b → a.Pairwise (· ≤ ·) → b.Pairwise (· ≤ ·) → a = b
  | [], b, p, _, _ => (List.nil_perm.mp p).symm
  | x :: r, [], p, _, _ => absurd p.length_eq (by simp)
  | x :: r, y :: s, p, ha, hb => by
    have ha' := List.pairwise_cons.mp ha
    have hb' := List.pairwise_cons.mp hb
    have e : x = y := by
      have h1 : x ∈ y :: s := p.mem_iff.mp (List.mem_cons_self ..)
      have h2 : y ∈ x :: r := p.mem_iff.mpr (List.mem_cons_self ..)
      rcases List.mem_cons.mp h1 with h1 | h1
      · exact h1
      · rcases List.mem_cons.mp h2 with h2 | h2
        · exact h2.symm
        · have := ha'.1 y h2
          have := hb'.1 x h1
          omega
    subst e
    rw [sorted_one ((List.perm_cons _).mp p) ha'.2 hb'.2]
theorem el_sorted [C : Cn X N sc k] [B : Bl X.mg] {ns : List Int} (ha : ED X e σ H (.list (ns.map PyData.int))) (h64 : ns.length < 64) (hs : glB sc "sorted" = true := by decide +kernel) (he : starEach [e] X.env = (false, eval e X.env) :: starEach [] X.env := by rfl) : EL X (.Call (.Name "sorted" p) [e] [] pos) σ H ((srt ns).map PyData.int) := fun H1 q Q kk =>
  of_pe (pe_callB cr_sorted (C.gl _ (glB_of hs).1) B.sorted boot_sorted (pa_run _) (glB_of hs).2.2 (glB_of hs).2.1 he rfl) ((ea_cons ha ea_nil he) H1 q _ fun vs H2 q2 dvs => by
    obtain ⟨v, rfl, hv⟩ := dpa1 dvs
    obtain ⟨r, ys, rfl, hy, hys⟩ := dp_lst hv
    obtain rfl := dpa_ints_eq hys
    refine ⟨r, ns, rfl, hy, h64, fun ns' l hp hso hl => ?_⟩
    rw [sorted_one (hp.trans (srt_perm ns).symm) hso (srt_sorted ns)]
    exact kk l _ _ (fresh_back q2 hl) (q2.trans (Ex.new hl)) upd_same (dpa_ints _))
end
end KD

namespace KD
open PySem PySem.Spec PyProof.Rows L2 Evl

theorem sqt_exT {K : PySem.W.Frag} {H H' : Hp} {a : Addr} {xs : List V} (e : ExT H H') (h : SqT K H a xs) : SqT K H' a xs := by
  rcases h with r | r
  · exact .inl (e _ _ r)
  · exact .inr r
/-! ### what is walked, by data -/
def WD (K : PySem.W.Frag) (J : It) (G : Hp → Prop) (ds : List PyData) : Prop :=
  (∀ i H, i < ds.length → G H → J.go i H) ∧ (∀ H, G H → J.stop ds.length H) ∧ ∀ (i : Nat) H x H' d, ds[i]? = some d → G H → J.yld i H x H' → Ex H H' ∧ Dp K H' x d
def EI (X : Cx) (tg iter : Expr) (σ : L2.St) (H : Hp) (S : Hp → Hp → Prop) (ds : List PyData) : Prop := ∀ H1, Ex H H1 → ∀ R : It → Hp → Prop, (∀ J H2, Ex H1 H2 → WD X.K J (S H2) ds → R J H2) → runI X tg iter σ H1 R
def enD : Nat → List PyData → List PyData
  | _, [] => []
  | n, d :: r => .tuple [.int n, d] :: enD (n + 1) r
theorem enD_len : ∀ (n : Nat) (ds : List PyData), (enD n ds).length = ds.length
  | _, [] => rfl
  | n, d :: r => congrArg Nat.succ (enD_len (n + 1) r)
theorem enD_get : ∀ (n i : Nat) (ds : List PyData), (enD n ds)[i]? = ds[i]?.map fun d => .tuple [.int ((n + i : Nat) : Int), d]
  | _, _, [] => by simp [enD]
  | n, 0, d :: r => by simp [enD]
  | n, i + 1, d :: r => by
    have h := enD_get (n + 1) i r
    rw [show n + 1 + i = n + (i + 1) by omega] at h
    simpa [enD] using h
theorem noLs_get {ds : List PyData} (h : noLs ds = true) {i : Nat} {d : PyData} (e : ds[i]? = some d) : noL d = true := noLs_iff.mp h d (List.mem_of_getElem? e)
section
variable {X : Cx} {N : List Str} {sc : Scope} {k : Nat} {σ : L2.St} {H H' : Hp} {e a b c tg : Expr} {es elts : List Expr} {d d1 d2 d3 : PyData} {ds ds2 : List PyData} {x : Str} {pos p tpos : Pos} {kk : Nat}
theorem ei_tup (ha : ED X e σ H (.tuple ds)) (hn : noLs ds = true) : EI X tg e σ H ExT ds := fun H1 q R k =>
  of_pi (pi_tup (pe_run e)) (ha H1 q _ fun v H2 q2 dv => by
    obtain ⟨r, xs, rfl, hx, hxs⟩ := dp_tup dv
    refine ⟨r, rfl, ⟨xs, hx⟩, k _ H2 q2 ⟨fun i H hi g => ?_, fun H g => ⟨xs, sqt_exT g hx, by rw [dpa_len hxs]; exact Nat.le_refl _⟩, fun i H x H' d hd g hy => ?_⟩⟩
    · obtain ⟨u, hu, _⟩ := dpa_at hxs (List.getElem?_eq_getElem hi)
      exact ⟨xs, u, sqt_exT g hx, hu⟩
    · obtain ⟨rfl, h⟩ := hy
      obtain ⟨u, hu, du⟩ := dpa_at hxs hd
      have e1 := (h xs (sqt_exT g hx)).symm.trans hu
      cases e1
      exact ⟨Ex.refl _, dp_exT g _ _ (noLs_get hn hd) du⟩)
theorem ei_list (ha : ED X e σ H (.list ds)) : EI X tg e σ H Ex ds := fun H1 q R k =>
  of_pi (pi_list (pe_run e)) (ha H1 q _ fun v H2 q2 dv => by
    obtain ⟨r, xs, rfl, hx, hxs⟩ := dp_lst dv
    refine ⟨r, rfl, ⟨xs, hx⟩, k _ H2 q2 ⟨fun i H hi g => ?_, fun H g => ⟨xs, ex_l g hx, by rw [dpa_len hxs]; exact Nat.le_refl _⟩, fun i H x H' d hd g hy => ?_⟩⟩
    · obtain ⟨u, hu, _⟩ := dpa_at hxs (List.getElem?_eq_getElem hi)
      exact ⟨xs, u, ex_l g hx, hu⟩
    · obtain ⟨rfl, h⟩ := hy
      obtain ⟨u, hu, du⟩ := dpa_at hxs hd
      have e1 := (h xs (ex_l g hx)).symm.trans hu
      cases e1
      exact ⟨Ex.refl _, g.dp du⟩)
/-- a list at a known place, other lists being written meanwhile -/
theorem ei_listP {r : Addr} {xs : List V} (ha : Ev (run X e) σ H (.ref r)) (hx : SqL X.K H r xs) (hxs : DpAll X.K H xs ds) (hn : noLs ds = true) : EI X tg e σ H (fun H2 H3 => ExT H2 H3 ∧ SqL X.K H3 r xs) ds := fun H1 q R k =>
  of_pi (pi_list (pe_run e)) (ha H1 q _ fun H2 q2 => by
    have hx2 := ex_l (q.trans q2) hx
    have hxs2 := (q.trans q2).dpa hxs
    refine ⟨r, rfl, ⟨xs, hx2⟩, k _ H2 q2 ⟨fun i H hi g => ?_, fun H g => ⟨xs, g.2, by rw [dpa_len hxs]; exact Nat.le_refl _⟩, fun i H x H' d hd g hy => ?_⟩⟩
    · obtain ⟨u, hu, _⟩ := dpa_at hxs (List.getElem?_eq_getElem hi)
      exact ⟨xs, u, g.2, hu⟩
    · obtain ⟨rfl, h⟩ := hy
      obtain ⟨u, hu, du⟩ := dpa_at hxs2 hd
      have e1 := (h xs g.2).symm.trans hu
      cases e1
      exact ⟨Ex.refl _, dp_exT g.1 _ _ (noLs_get hn hd) du⟩)
theorem ei_enumT [C : Cn X N sc k] [B : Bl X.mg] (ha : ED X e σ H (.tuple ds)) (hn : noLs ds = true) (hs : glB sc "enumerate" = true := by decide +kernel) (he : starEach [e] X.env = [(false, eval e X.env)] := by rfl) :
    EI X (.Tuple elts kk tpos) (.Call (.Name "enumerate" p) [e] [] pos) σ H ExT (enD 0 ds) := fun H1 q R k =>
  of_pi (pi_enumT (C.gl _ (glB_of hs).1) B.enumerate (pa_run [e]) he) ((ea_cons ha ea_nil he) H1 q _ fun vs H2 q2 dvs => by
    obtain ⟨v, rfl, dv⟩ := dpa1 dvs
    obtain ⟨r, xs, rfl, hx, hxs⟩ := dp_tup dv
    refine ⟨r, xs, rfl, hx, k _ H2 q2 ⟨fun i H hi g => ?_, fun H g => ⟨xs, sqt_exT g hx, by rw [dpa_len hxs, enD_len]; exact Nat.le_refl _⟩, fun i H x H' d hd g hy => ?_⟩⟩
    · rw [enD_len] at hi
      obtain ⟨u, hu, _⟩ := dpa_at hxs (List.getElem?_eq_getElem hi)
      exact ⟨xs, u, sqt_exT g hx, hu⟩
    · obtain ⟨T, u, rfl, hT, rfl, h⟩ := hy
      have hu := h xs (sqt_exT g hx)
      obtain ⟨d', hd', du⟩ := dpa_back hxs hu
      rw [enD_get, hd'] at hd
      have hd := Option.some.inj hd
      subst hd
      rw [Nat.zero_add]
      exact ⟨Ex.new hT, .tup (st_of upd_same) (.cons (.int _) (dpa_one ((Ex.new hT).dp (dp_exT g _ _ (noLs_get hn hd') du))))⟩)
theorem ei_enumL [C : Cn X N sc k] [B : Bl X.mg] (ha : ED X e σ H (.list ds)) (hs : glB sc "enumerate" = true := by decide +kernel) (he : starEach [e] X.env = [(false, eval e X.env)] := by rfl) :
    EI X (.Tuple elts kk tpos) (.Call (.Name "enumerate" p) [e] [] pos) σ H Ex (enD 0 ds) := fun H1 q R k =>
  of_pi (pi_enum (C.gl _ (glB_of hs).1) B.enumerate (pa_run [e]) he) ((ea_cons ha ea_nil he) H1 q _ fun vs H2 q2 dvs => by
    obtain ⟨v, rfl, dv⟩ := dpa1 dvs
    obtain ⟨r, xs, rfl, hx, hxs⟩ := dp_lst dv
    refine ⟨r, xs, rfl, hx, k _ H2 q2 ⟨fun i H hi g => ?_, fun H g => ⟨xs, ex_l g hx, by rw [dpa_len hxs, enD_len]; exact Nat.le_refl _⟩, fun i H x H' d hd g hy => ?_⟩⟩
    · rw [enD_len] at hi
      obtain ⟨u, hu, _⟩ := dpa_at hxs (List.getElem?_eq_getElem hi)
      exact ⟨xs, u, ex_l g hx, hu⟩
    · obtain ⟨T, u, rfl, hT, rfl, h⟩ := hy
      have hu := h xs (ex_l g hx)
      obtain ⟨d', hd', du⟩ := dpa_back hxs hu
      rw [enD_get, hd'] at hd
      have hd := Option.some.inj hd
      subst hd
      rw [Nat.zero_add]
      exact ⟨Ex.new hT, .tup (st_of upd_same) (.cons (.int _) (dpa_one ((Ex.new hT).dp (g.dp du))))⟩)
def zipD : List PyData → List PyData → List PyData
  | a :: r, b :: s => .tuple [a, b] :: zipD r s
  | _, _ => []
theorem zipD_len : ∀ (a b : List PyData), (zipD a b).length = min a.length b.length
  | [], b => by simp [zipD]
  | a :: r, [] => by simp [zipD]
  | a :: r, b :: s => by
    show (zipD r s).length + 1 = _
    rw [zipD_len r s, List.length_cons, List.length_cons]
    omega
theorem zipD_get : ∀ (a b : List PyData) (i : Nat) (d : PyData), (zipD a b)[i]? = some d → ∃ u v, a[i]? = some u ∧ b[i]? = some v ∧ d = .tuple [u, v]
  | [], b, i, d, h => by simp [zipD] at h
  | a :: r, [], i, d, h => by simp [zipD] at h
  | a :: r, b :: s, 0, d, h => by
    simp [zipD] at h
    exact ⟨a, b, rfl, rfl, h.symm⟩
  | a :: r, b :: s, i + 1, d, h => by
    simp only [zipD, List.getElem?_cons_succ] at h ⊢
    exact zipD_get r s i d h
theorem ei_zipT [C : Cn X N sc k] [B : Bl X.mg] (ha : ED X a σ H (.tuple ds)) (hb : ED X b σ H (.tuple ds2)) (hn : noLs ds = true) (hn2 : noLs ds2 = true) (hs : glB sc "zip" = true := by decide +kernel) (he : starEach [a, b] X.env = (false, eval a X.env) :: starEach [b] X.env := by rfl)
    (he2 : starEach [b] X.env = (false, eval b X.env) :: starEach [] X.env := by rfl) (hpl : (backTo pos (starEach [b] X.env)).any (·.1) = false := by rfl) : EI X (.Tuple elts kk tpos) (.Call (.Name "zip" p) [a, b] [] pos) σ H ExT (zipD ds ds2) := fun H1 q R k =>
  of_pi (RZ.pi_zipA (C.gl _ (glB_of hs).1) B.zip (pa_run [a, b]) he hpl) ((ea_cons ha (ea_cons hb ea_nil he2) he) H1 q _ fun vs H2 q2 dvs => by
    obtain ⟨v, u, rfl, dv, du⟩ := dpa2 dvs
    obtain ⟨r, xs, rfl, hx, hxs⟩ := dp_tup dv
    obtain ⟨r2, ys, rfl, hy, hys⟩ := dp_tup du
    refine ⟨r, r2, xs, ys, rfl, .inr ⟨hx, hy, k _ H2 q2 ⟨fun i H hi g => ?_, fun H g => ?_, fun i H x H' d hd g hz => ?_⟩⟩⟩
    · rw [zipD_len] at hi
      obtain ⟨u, hu, _⟩ := dpa_at hxs (List.getElem?_eq_getElem (show i < ds.length by omega))
      obtain ⟨w, hw, _⟩ := dpa_at hys (List.getElem?_eq_getElem (show i < ds2.length by omega))
      exact ⟨xs, ys, u, w, sqt_exT g hx, sqt_exT g hy, hu, hw⟩
    · refine ⟨xs, ys, sqt_exT g hx, sqt_exT g hy, ?_⟩
      rw [zipD_len, dpa_len hxs, dpa_len hys]
      omega
    · obtain ⟨T, u, w, rfl, hT, rfl, h1, h2⟩ := hz
      obtain ⟨d1, d2, e1, e2, rfl⟩ := zipD_get _ _ _ _ hd
      obtain ⟨u', hu', du'⟩ := dpa_at hxs e1
      obtain ⟨w', hw', dw'⟩ := dpa_at hys e2
      have z1 := (h1 xs (sqt_exT g hx)).symm.trans hu'
      have z2 := (h2 ys (sqt_exT g hy)).symm.trans hw'
      cases z1
      cases z2
      exact ⟨Ex.new hT, .tup (st_of upd_same) (.cons ((Ex.new hT).dp (dp_exT g _ _ (noLs_get hn e1) du')) (dpa_one ((Ex.new hT).dp (dp_exT g _ _ (noLs_get hn2 e2) dw'))))⟩)
theorem rgD_get {m n : Int} {i : Nat} {d : PyData} (h : (rgD m n)[i]? = some d) : d = .int (m + i) ∧ i < (n - m).toNat := by
  unfold rgD at h
  rw [List.getElem?_map] at h
  cases e : (List.range (n - m).toNat)[i]? with
  | none => rw [e] at h; cases h
  | some j =>
    rw [e] at h
    obtain ⟨h1, h2⟩ := List.getElem?_eq_some_iff.mp e
    rw [List.getElem_range] at h2
    subst h2
    rw [List.length_range] at h1
    exact ⟨(Option.some.inj h).symm, h1⟩
theorem rgD_len (m n : Int) : (rgD m n).length = (n - m).toNat := by
  unfold rgD
  rw [List.length_map, List.length_range]
theorem ei_range1 [C : Cn X N sc k] [B : Bl X.mg] {n : Int} (ha : ED X e σ H (.int n)) (h0 : -(2 ^ 62) ≤ n) (h1 : n < 2 ^ 62) (hs : glB sc "range" = true := by decide +kernel) (he : starEach [e] X.env = [(false, eval e X.env)] := by rfl) :
    EI X tg (.Call (.Name "range" p) [e] [] pos) σ H (fun _ _ => True) (rgD 0 n) := fun H1 q R k =>
  of_pi (pi_range1 (C.gl _ (glB_of hs).1) B.range (pa_run [e]) he) ((ea_cons ha ea_nil he) H1 q _ fun vs H2 q2 dvs => by
    obtain ⟨v, rfl, dv⟩ := dpa1 dvs
    cases dv
    refine ⟨n, rfl, h0, h1, k _ H2 q2 ⟨fun i H hi g => ?_, fun H g => ?_, fun i H x H' d hd g hy => ?_⟩⟩
    · rw [rgD_len] at hi
      show i < n.toNat
      omega
    · rw [rgD_len]
      show n.toNat ≤ _
      omega
    · obtain ⟨rfl, rfl⟩ := hy
      obtain ⟨rfl, _⟩ := rgD_get hd
      exact ⟨Ex.refl _, .int _⟩)
/-! ### comprehensions -/
structure runTs (X : Cx) (ifs : List Expr) (σ : L2.St) (H : Hp) (Q : Bool → Hp → Prop) : Prop where
  go : ∀ (pins : List (Addr × Obj)) (s : Shared), Inv X pins σ H s →
    wpAny (model X.prog X.w) X.A (forIn ifs true fun c r => if r = true then do let ok ← isTrue c X.env (eval c X.env); pure (ForInStep.yield ok) else pure (ForInStep.yield r)) (TP X pins σ Q) X.xe s
theorem pts_run (ifs : List Expr) : PTs X ifs (runTs X ifs) := ⟨fun pins s _ _ _ I h => h.go pins s I⟩
def bTE (X : Cx) (scope : Scope) (elt : Expr) : TE := fun σ H Q => ∀ (s0 : Shared) (H0 : Hp) (A : Addr) (cl : List (Str × Addr)) (fp : List Addr), run (X.blk s0 H0 scope (compEnvC scope cl A X.env) fp) elt σ H Q
def bTT (X : Cx) (scope : Scope) (ifs : List Expr) : TT := fun σ H Q => ∀ (s0 : Shared) (H0 : Hp) (A : Addr) (cl : List (Str × Addr)) (fp : List Addr), runTs (X.blk s0 H0 scope (compEnvC scope cl A X.env) fp) ifs σ H Q
def BTs (X : Cx) (N : List Str) (scope : Scope) (k : Nat) (ifs : List Expr) (σ : L2.St) (H : Hp) (t : Bool) : Prop :=
  ∀ (s0 : Shared) (H0 : Hp) (A : Addr) (cl : List (Str × Addr)) (fp : List Addr), Cn (X.blk s0 H0 scope (compEnvC scope cl A X.env) fp) N scope k → ∀ H1, Ex H H1 → ∀ Q : Bool → Hp → Prop, (∀ H2, Ex H1 H2 → Q t H2) → runTs (X.blk s0 H0 scope (compEnvC scope cl A X.env) fp) ifs σ H1 Q
def BD (X : Cx) (N : List Str) (scope : Scope) (k : Nat) (elt : Expr) (σ : L2.St) (H : Hp) (d : PyData) : Prop :=
  ∀ (s0 : Shared) (H0 : Hp) (A : Addr) (cl : List (Str × Addr)) (fp : List Addr), Cn (X.blk s0 H0 scope (compEnvC scope cl A X.env) fp) N scope k → ED (X.blk s0 H0 scope (compEnvC scope cl A X.env) fp) elt σ H d
theorem bt_nil {scope : Scope} : BTs X N scope k [] σ H true := fun s0 H0 A cl fp _ H1 q Q kk => ⟨fun pins s I => pts_nil.run pins s σ H1 Q I (kk H1 (Ex.refl H1))⟩
theorem bt_one {scope : Scope} {t : Bool} (h : ∀ (s0 : Shared) (H0 : Hp) (A : Addr) (cl : List (Str × Addr)) (fp : List Addr), Cn (X.blk s0 H0 scope (compEnvC scope cl A X.env) fp) N scope k → ET (X.blk s0 H0 scope (compEnvC scope cl A X.env) fp) c σ H t) : BTs X N scope k [c] σ H t :=
  fun s0 H0 A cl fp C H1 q Q kk => ⟨fun pins s I => (pts_one (pt_run c)).run pins s σ H1 Q I (h s0 H0 A cl fp C H1 q Q kk)⟩
/-- the turns of a list comprehension, by data -/
theorem lc_data {J : It} {S : Hp → Hp → Prop} {tt : TT} {te : TE} {g : TG} {vs : List Nat} {H1 : Hp} {f : PyData → Bool} {w : PyData → PyData} {T : PyData → L2.St → Hp → Prop} {Q : VK} (W : WD X.K J (S H1) ds) (hS : ∀ H', Ex H1 H' → S H1 H') (hz : ds.length ≤ 40000)
    (hT : ∀ d ∈ ds, ∀ v H', Ex H1 H' → Dp X.K H' v d → ∀ R : L2.St → Hp → Prop, (∀ σ2, T d σ2 H' → R σ2 H') → g v (wipe σ vs) H' R)
    (ht : ∀ d ∈ ds, ∀ σ2 H', Ex H1 H' → T d σ2 H' → wipe σ2 vs = wipe σ vs ∧ (∀ R : Bool → Hp → Prop, (∀ H2, Ex H' H2 → R (f d) H2) → tt σ2 H' R) ∧ (f d = true → ∀ H2, Ex H' H2 → ∀ R : VK, (∀ v H3, Ex H2 H3 → Dp X.K H3 v (w d) → R v H3) → te σ2 H2 R))
    (hw : ∀ d ∈ ds, noL (w d) = true) {D : Addr} (hD : H1 D = none) (kq : ∀ xs H2, Ex H1 H2 → H2 D = some (.lst xs) → DpAll X.K H2 xs ((ds.filter f).map w) → Q (.ref D) H2) :
    ∃ W : Nat → Nat → Hp → Prop, (∃ m, W 0 m (upd H1 D (.lst []))) ∧ ∀ i m H, W i m H →
      (J.stop i H ∧ Q (.ref D) H) ∨ (J.go i H ∧ ∃ Nx : Hp → Prop, (∀ H', Nx H' → ∃ m', m' < m ∧ W (i + 1) m' H') ∧ ∀ x H', J.yld i H x H' → g x (wipe σ vs) H' fun σ2 H2 => wipe σ2 vs = wipe σ vs ∧ tt σ2 H2 fun b H3 =>
        if b = true then te σ2 H3 fun y H4 => ∃ acc, H4 D = some (.lst acc) ∧ acc.length < sizeLine ∧ Nx (upd H4 D (.lst (acc ++ [y]))) else Nx H3) := by
  let P : Nat → Hp → Prop := fun i H => Ex H1 H ∧ ∃ acc, H D = some (.lst acc) ∧ DpAll X.K H acc (((ds.take i).filter f).map w)
  have plen : ∀ i H acc, DpAll X.K H acc (((ds.take i).filter f).map w) → acc.length ≤ 40000 := fun i H acc h => by
    rw [dpa_len h, List.length_map]
    exact Nat.le_trans (List.length_filter_le _ _) (Nat.le_trans (by rw [List.length_take]; omega) hz)
  refine ⟨fun i m H => i + m = ds.length ∧ P i H, ⟨ds.length, Nat.zero_add _, Ex.new hD, [], upd_same, .nil⟩, fun i m H hW => ?_⟩
  obtain ⟨em, hex, acc, hacc, hda⟩ := hW
  by_cases hi : i < ds.length
  · refine .inr ⟨W.1 i H hi (hS H hex), fun H' => P (i + 1) H', fun H' h => ⟨m - 1, by omega, by omega, h⟩, fun x H' hy => ?_⟩
    have hd := List.getElem?_eq_getElem hi
    have hm : ds[i] ∈ ds := List.getElem_mem hi
    obtain ⟨q1, dx⟩ := W.2.2 i H x H' _ hd (hS H hex) hy
    refine hT _ hm x H' (hex.trans q1) dx _ fun σ2 hσ => ?_
    obtain ⟨e1, e2, e3⟩ := ht _ hm σ2 H' (hex.trans q1) hσ
    refine ⟨e1, e2 _ fun H3 q3 => ?_⟩
    have et : ds.take (i + 1) = ds.take i ++ [ds[i]] := by
      rw [List.take_add_one, hd]
      rfl
    cases hf : f ds[i] with
    | true =>
      show te σ2 H3 _
      refine e3 hf H3 q3 _ fun y H4 q4 dy => ?_
      have qq := (q1.trans q3).trans q4
      have hD4 : H4 D = some (.lst acc) := qq D _ hacc
      refine ⟨acc, hD4, sz_lt (by have := plen i H acc hda; omega), Ex.mut (hex.trans qq) hD, acc ++ [y], upd_same, ?_⟩
      rw [et, List.filter_append, List.map_append, List.filter_cons, if_pos hf]
      refine dpa_app (dpa_exT (ExT.lst hD4) _ _ ?_ (qq.dpa hda)) (dpa_one (dp_exT (ExT.lst hD4) _ _ (hw _ hm) dy))
      refine noLs_iff.mpr fun z hz => ?_
      obtain ⟨u, hu, rfl⟩ := List.mem_map.mp hz
      exact hw u (List.mem_of_mem_take (List.mem_filter.mp hu).1)
    | false =>
      show P (i + 1) H3
      refine ⟨hex.trans (q1.trans q3), acc, (q1.trans q3) D _ hacc, ?_⟩
      rw [et, List.filter_append, List.filter_cons, if_neg (by rw [hf]; decide)]
      show DpAll X.K H3 acc ((List.filter f (List.take i ds) ++ []).map w)
      rw [List.append_nil]
      exact (q1.trans q3).dpa hda
  · have ei : i = ds.length := by omega
    subst ei
    refine .inl ⟨W.2.1 H (hS H hex), kq acc H hex hacc ?_⟩
    rw [List.take_length] at hda
    exact hda
/-- [elt for x in iter if ..] -/
theorem el_lc1 [C : Cn X N sc k] {elt iter : Expr} {ifs : List Expr} {scope : Scope} {own : List (Str × Nat)} {S : Hp → Hp → Prop} (i : Nat) (f : PyData → Bool) (w : PyData → PyData) (src : EI X (.Name x p) iter σ H S ds)
    (ht : ∀ d ∈ ds, ∀ v H', Ex H H' → Dp X.K H' v d → BTs X N scope k ifs ((wipe σ (own.map (·.2))).set i (some v)) H' (f d) ∧ (f d = true → BD X N scope k elt ((wipe σ (own.map (·.2))).set i (some v)) H' (w d)))
    (hw : ∀ d ∈ ds, noL (w d) = true) (hS : ∀ H1 H', Ex H1 H' → S H1 H' := by first | exact fun _ _ q => q.t | exact fun _ _ q => q | exact fun _ _ _ => True.intro) (hz : ds.length ≤ 40000) (hN : N[i]? = some x := by rfl) (hb : blkC N sc scope own = true := by decide +kernel) (hk : scope.kind = .function := by rfl) (hl : locB scope x = true := by decide +kernel)
    (hwp : ∀ v, wipe ((wipe σ (own.map (·.2))).set i (some v)) (own.map (·.2)) = wipe σ (own.map (·.2)) := by intro _; rfl) (hs : ∀ y, foldedSetIterable iter X.env y = pure y := by intro _; rfl) : EL X (.ListComp elt [⟨.Name x p, iter, ifs, 0⟩] scope pos) σ H ((ds.filter f).map w) := fun H1 q Q kq =>
  of_pe (pe_lc (te := bTE X scope elt) (tt := bTT X scope ifs)
    C.calm C.nd' (pi_run (.Name x p) iter) (C.blkOk hb) (fun s0 H0 A cl fp => pg_name (C.blk s0 H0 scope cl A fp hk).nd' ((C.blk s0 H0 scope cl A fp hk).at_ hN) ((C.blk s0 H0 scope cl A fp hk).loc x (locB_of hl)).1 ((C.blk s0 H0 scope cl A fp hk).loc x (locB_of hl)).2)
    (fun s0 H0 A cl fp => ⟨fun pins s _ _ _ I h => (h s0 H0 A cl fp).go pins s I⟩) (fun s0 H0 A cl fp => ⟨fun pins s _ _ _ I h => (h s0 H0 A cl fp).go pins s I⟩) hs)
    (src H1 q _ fun J H2 q2 W D hD => lc_data (te := bTE X scope elt) (tt := bTT X scope ifs) (g := gName i) (T := fun d σ2 H' => ∃ v, σ2 = (wipe σ (own.map (·.2))).set i (some v) ∧ Dp X.K H' v d) W (hS H2) hz (fun d _ v H' _ dv R r => r _ ⟨v, rfl, dv⟩)
      (fun d hd σ2 H' q3 hσ => by
        obtain ⟨v, rfl, dv⟩ := hσ
        obtain ⟨a1, a2⟩ := ht d hd v H' ((q.trans q2).trans q3) dv
        exact ⟨hwp v, fun R r s0 H0 A cl fp => a1 s0 H0 A cl fp (C.blk s0 H0 scope cl A fp hk) H' (Ex.refl _) R r, fun hf H3 q4 R r s0 H0 A cl fp => a2 hf s0 H0 A cl fp (C.blk s0 H0 scope cl A fp hk) H3 q4 R r⟩)
      hw hD fun xs H3 q3 h1 h2 => kq D xs H3 (fresh_back q2 hD) (q2.trans q3) h1 h2)
/-- y = [elt for x in iter if ..] -/
theorem st_asgLc1 [C : Cn X N sc k] {elt iter : Expr} {ifs : List Expr} {scope : Scope} {own : List (Str × Nat)} {S : Hp → Hp → Prop} {y : Str} {j : Nat} {py spos : Pos} {En : Ends} (i : Nat) (f : PyData → Bool) (w : PyData → PyData) (src : EI X (.Name x p) iter σ H S ds)
    (ht : ∀ d ∈ ds, ∀ v H', Ex H H' → Dp X.K H' v d → BTs X N scope k ifs ((wipe σ (own.map (·.2))).set i (some v)) H' (f d) ∧ (f d = true → BD X N scope k elt ((wipe σ (own.map (·.2))).set i (some v)) H' (w d)))
    (hw : ∀ d ∈ ds, noL (w d) = true) (kq : ∀ p xs H2, H p = none → Ex H H2 → H2 p = some (.lst xs) → DpAll X.K H2 xs ((ds.filter f).map w) → En.nx (σ.set j (some (.ref p))) H2) (hz : ds.length ≤ 40000) (hS : ∀ H1 H', Ex H1 H' → S H1 H' := by first | exact fun _ _ q => q.t | exact fun _ _ q => q | exact fun _ _ _ => True.intro) (hN : N[i]? = some x := by rfl) (hy : N[j]? = some y := by rfl) (hyl : decide (sc.names.lookup y = some .local) = true := by decide +kernel)
    (hln : (py.line == pos.line) = true := by rfl) (hna : (scope.names.any fun (n, k) => n == y && (k == .local || k == .cell)) = false := by decide +kernel) (hb : blkC N sc scope own = true := by decide +kernel) (hk : scope.kind = .function := by rfl) (hl : locB scope x = true := by decide +kernel)
    (hwp : ∀ v, wipe ((wipe σ (own.map (·.2))).set i (some v)) (own.map (·.2)) = wipe σ (own.map (·.2)) := by intro _; rfl) (hs : ∀ y, foldedSetIterable iter X.env y = pure y := by intro _; rfl) : runS X (.Assign [.Name y py] (.ListComp elt [⟨.Name x p, iter, ifs, 0⟩] scope pos) spos) En σ H :=
  of_ps (ps_setLc (te := bTE X scope elt) (tt := bTT X scope ifs)
    C.calm C.nd' (C.at_ hy) (C.loc1 y (of_decide_eq_true hyl)) (sw_true C.kind (C.loc1 y (of_decide_eq_true hyl)) hln hna) (pi_run (.Name x p) iter) (C.blkOk hb) (fun s0 H0 A cl fp => pg_name (C.blk s0 H0 scope cl A fp hk).nd' ((C.blk s0 H0 scope cl A fp hk).at_ hN) ((C.blk s0 H0 scope cl A fp hk).loc x (locB_of hl)).1 ((C.blk s0 H0 scope cl A fp hk).loc x (locB_of hl)).2)
    (fun s0 H0 A cl fp => ⟨fun pins s _ _ _ I h => (h s0 H0 A cl fp).go pins s I⟩) (fun s0 H0 A cl fp => ⟨fun pins s _ _ _ I h => (h s0 H0 A cl fp).go pins s I⟩) hs)
    (src H (Ex.refl H) _ fun J H2 q2 W D hD => lc_data (Q := fun v H => En.nx (σ.set j (some v)) H) (te := bTE X scope elt) (tt := bTT X scope ifs) (g := gName i) (T := fun d σ2 H' => ∃ v, σ2 = (wipe σ (own.map (·.2))).set i (some v) ∧ Dp X.K H' v d) W (hS H2) hz (fun d _ v H' _ dv R r => r _ ⟨v, rfl, dv⟩)
      (fun d hd σ2 H' q3 hσ => by
        obtain ⟨v, rfl, dv⟩ := hσ
        obtain ⟨a1, a2⟩ := ht d hd v H' (q2.trans q3) dv
        exact ⟨hwp v, fun R r s0 H0 A cl fp => a1 s0 H0 A cl fp (C.blk s0 H0 scope cl A fp hk) H' (Ex.refl _) R r, fun hf H3 q4 R r s0 H0 A cl fp => a2 hf s0 H0 A cl fp (C.blk s0 H0 scope cl A fp hk) H3 q4 R r⟩)
      hw hD fun xs H3 q3 h1 h2 => kq D xs H3 (fresh_back q2 hD) (q2.trans q3) h1 h2)
/-- [elt for x, y in iter if ..] -/
theorem el_lc2 [C : Cn X N sc k] {elt iter : Expr} {ifs : List Expr} {scope : Scope} {own : List (Str × Nat)} {S : Hp → Hp → Prop} {y : Str} {py pt : Pos} {kt : Nat} (i j : Nat) (f : PyData → Bool) (w : PyData → PyData) (src : EI X (.Tuple [.Name x p, .Name y py] kt pt) iter σ H S ds)
    (hp : ∀ d ∈ ds, ∃ d1 d2, d = .tuple [d1, d2])
    (ht : ∀ d1 d2, .tuple [d1, d2] ∈ ds → ∀ v1 v2 H', Ex H H' → Dp X.K H' v1 d1 → Dp X.K H' v2 d2 → BTs X N scope k ifs (((wipe σ (own.map (·.2))).set i (some v1)).set j (some v2)) H' (f (.tuple [d1, d2])) ∧ (f (.tuple [d1, d2]) = true → BD X N scope k elt (((wipe σ (own.map (·.2))).set i (some v1)).set j (some v2)) H' (w (.tuple [d1, d2]))))
    (hw : ∀ d ∈ ds, noL (w d) = true) (hz : ds.length ≤ 40000) (hS : ∀ H1 H', Ex H1 H' → S H1 H' := by first | exact fun _ _ q => q.t | exact fun _ _ q => q | exact fun _ _ _ => True.intro) (hN : N[i]? = some x := by rfl) (hN2 : N[j]? = some y := by rfl) (hb : blkC N sc scope own = true := by decide +kernel) (hk : scope.kind = .function := by rfl) (hl : locB scope x = true := by decide +kernel) (hl2 : locB scope y = true := by decide +kernel)
    (hwp : ∀ v v2, wipe (((wipe σ (own.map (·.2))).set i (some v)).set j (some v2)) (own.map (·.2)) = wipe σ (own.map (·.2)) := by intro _ _; rfl) (hs : ∀ y, foldedSetIterable iter X.env y = pure y := by intro _; rfl) : EL X (.ListComp elt [⟨.Tuple [.Name x p, .Name y py] kt pt, iter, ifs, 0⟩] scope pos) σ H ((ds.filter f).map w) := fun H1 q Q kq =>
  of_pe (pe_lc (te := bTE X scope elt) (tt := bTT X scope ifs)
    C.calm C.nd' (pi_run _ iter) (C.blkOk hb) (fun s0 H0 A cl fp => pg_tup (n := 2) (C.blk s0 H0 scope cl A fp hk).calm (pgs_cons (pg_name (C.blk s0 H0 scope cl A fp hk).nd' ((C.blk s0 H0 scope cl A fp hk).at_ hN) ((C.blk s0 H0 scope cl A fp hk).loc x (locB_of hl)).1 ((C.blk s0 H0 scope cl A fp hk).loc x (locB_of hl)).2)
        (pgs_cons (pg_name (C.blk s0 H0 scope cl A fp hk).nd' ((C.blk s0 H0 scope cl A fp hk).at_ hN2) ((C.blk s0 H0 scope cl A fp hk).loc y (locB_of hl2)).1 ((C.blk s0 H0 scope cl A fp hk).loc y (locB_of hl2)).2) pgs_nil)))
    (fun s0 H0 A cl fp => ⟨fun pins s _ _ _ I h => (h s0 H0 A cl fp).go pins s I⟩) (fun s0 H0 A cl fp => ⟨fun pins s _ _ _ I h => (h s0 H0 A cl fp).go pins s I⟩) hs)
    (src H1 q _ fun J H2 q2 W D hD => lc_data (te := bTE X scope elt) (tt := bTT X scope ifs) (g := gTup X.K 2 (gCons (gName i) (gCons (gName j) gNil))) (T := fun d σ2 H' => ∃ d1 d2 v1 v2, d = .tuple [d1, d2] ∧ σ2 = ((wipe σ (own.map (·.2))).set i (some v1)).set j (some v2) ∧ Dp X.K H' v1 d1 ∧ Dp X.K H' v2 d2) W (hS H2) hz (fun d hd v H' _ dv R r => by
        obtain ⟨d1, d2, rfl⟩ := hp d hd
        obtain ⟨a, xs, rfl, hx, hxs⟩ := dp_tup dv
        obtain ⟨v1, v2, rfl, h1, h2⟩ := dpa2 hxs
        exact ⟨a, _, rfl, hx, rfl, v1, [v2], rfl, v2, [], rfl, rfl, r _ ⟨d1, d2, v1, v2, rfl, rfl, h1, h2⟩⟩)
      (fun d hd σ2 H' q3 hσ => by
        obtain ⟨d1, d2, v1, v2, rfl, rfl, h1, h2⟩ := hσ
        obtain ⟨a1, a2⟩ := ht d1 d2 hd v1 v2 H' ((q.trans q2).trans q3) h1 h2
        exact ⟨hwp v1 v2, fun R r s0 H0 A cl fp => a1 s0 H0 A cl fp (C.blk s0 H0 scope cl A fp hk) H' (Ex.refl _) R r, fun hf H3 q4 R r s0 H0 A cl fp => a2 hf s0 H0 A cl fp (C.blk s0 H0 scope cl A fp hk) H3 q4 R r⟩)
      hw hD fun xs H3 q3 h1 h2 => kq D xs H3 (fresh_back q2 hD) (q2.trans q3) h1 h2)
theorem filter_yes : ∀ ds : List PyData, ds.filter (fun _ => true) = ds := fun ds => List.filter_eq_self.mpr fun _ _ => rfl
/-- [elt for x in iter] -/
theorem el_map1 [C : Cn X N sc k] {elt iter : Expr} {scope : Scope} {own : List (Str × Nat)} {S : Hp → Hp → Prop} (i : Nat) (w : PyData → PyData) (src : EI X (.Name x p) iter σ H S ds)
    (ht : ∀ d ∈ ds, ∀ v H', Ex H H' → Dp X.K H' v d → BD X N scope k elt ((wipe σ (own.map (·.2))).set i (some v)) H' (w d))
    (hw : ∀ d ∈ ds, noL (w d) = true) (hz : ds.length ≤ 40000) (hS : ∀ H1 H', Ex H1 H' → S H1 H' := by first | exact fun _ _ q => q.t | exact fun _ _ q => q | exact fun _ _ _ => True.intro) (hN : N[i]? = some x := by rfl) (hb : blkC N sc scope own = true := by decide +kernel) (hk : scope.kind = .function := by rfl) (hl : locB scope x = true := by decide +kernel)
    (hwp : ∀ v, wipe ((wipe σ (own.map (·.2))).set i (some v)) (own.map (·.2)) = wipe σ (own.map (·.2)) := by intro _; rfl) (hs : ∀ y, foldedSetIterable iter X.env y = pure y := by intro _; rfl) : EL X (.ListComp elt [⟨.Name x p, iter, [], 0⟩] scope pos) σ H (ds.map w) := by
  have h := el_lc1 (pos := pos) (own := own) (elt := elt) i (fun _ => true) w src (fun d hd v H' q dv => ⟨bt_nil, fun _ => ht d hd v H' q dv⟩) hw hS hz hN hb hk hl hwp hs
  rw [filter_yes] at h
  exact h
/-- [elt for x, y in iter] -/
theorem el_map2 [C : Cn X N sc k] {elt iter : Expr} {scope : Scope} {own : List (Str × Nat)} {S : Hp → Hp → Prop} {y : Str} {py pt : Pos} {kt : Nat} (i j : Nat) (w : PyData → PyData) (src : EI X (.Tuple [.Name x p, .Name y py] kt pt) iter σ H S ds)
    (hp : ∀ d ∈ ds, ∃ d1 d2, d = .tuple [d1, d2])
    (ht : ∀ d1 d2, .tuple [d1, d2] ∈ ds → ∀ v1 v2 H', Ex H H' → Dp X.K H' v1 d1 → Dp X.K H' v2 d2 → BD X N scope k elt (((wipe σ (own.map (·.2))).set i (some v1)).set j (some v2)) H' (w (.tuple [d1, d2])))
    (hw : ∀ d ∈ ds, noL (w d) = true) (hz : ds.length ≤ 40000) (hS : ∀ H1 H', Ex H1 H' → S H1 H' := by first | exact fun _ _ q => q.t | exact fun _ _ q => q | exact fun _ _ _ => True.intro) (hN : N[i]? = some x := by rfl) (hN2 : N[j]? = some y := by rfl) (hb : blkC N sc scope own = true := by decide +kernel) (hk : scope.kind = .function := by rfl) (hl : locB scope x = true := by decide +kernel) (hl2 : locB scope y = true := by decide +kernel)
    (hwp : ∀ v v2, wipe (((wipe σ (own.map (·.2))).set i (some v)).set j (some v2)) (own.map (·.2)) = wipe σ (own.map (·.2)) := by intro _ _; rfl) (hs : ∀ y, foldedSetIterable iter X.env y = pure y := by intro _; rfl) : EL X (.ListComp elt [⟨.Tuple [.Name x p, .Name y py] kt pt, iter, [], 0⟩] scope pos) σ H (ds.map w) := by
  have h := el_lc2 (pos := pos) (own := own) (elt := elt) i j (fun _ => true) w src hp (fun d1 d2 hd v1 v2 H' q e1 e2 => ⟨bt_nil, fun _ => ht d1 d2 hd v1 v2 H' q e1 e2⟩) hw hz hS hN hN2 hb hk hl hl2 hwp hs
  rw [filter_yes] at h
  exact h
/-- [y for x in iter for y in x] -/
theorem el_flat [C : Cn X N sc k] {iter : Expr} {scope : Scope} {own : List (Str × Nat)} {S : Hp → Hp → Prop} {y : Str} {py py2 px2 : Pos} (i j : Nat) (gs : List (List PyData)) (src : EI X (.Name x p) iter σ H S (gs.map PyData.tuple)) (hn : ∀ g ∈ gs, noLs g = true) (hz : gs.flatten.length ≤ 40000)
    (hS : ∀ H1 H', Ex H1 H' → S H1 H' := by first | exact fun _ _ q => q.t | exact fun _ _ q => q | exact fun _ _ _ => True.intro) (hN : N[i]? = some x := by rfl) (hN2 : N[j]? = some y := by rfl) (hb : blkC N sc scope own = true := by decide +kernel) (hk : scope.kind = .function := by rfl) (hl : locB scope x = true := by decide +kernel) (hl2 : locB scope y = true := by decide +kernel)
    (hv1 : visB scope x = true := by decide +kernel) (hv2 : visB scope y = true := by decide +kernel) (hj : ∀ i ∈ [j], i ∈ own.map (·.2) := by decide)
    (hwp : ∀ v, wipe ((wipe σ (own.map (·.2))).set i (some v)) (own.map (·.2)) = wipe σ (own.map (·.2)) := by intro _; rfl) (hg0 : ∀ v, ((wipe σ (own.map (·.2))).set i (some v))[i]? = some (some v) := by intro _; rfl)
    (hwp2 : ∀ v u, wipe ((wipe ((wipe σ (own.map (·.2))).set i (some v)) [j]).set j (some u)) [j] = wipe ((wipe σ (own.map (·.2))).set i (some v)) [j] := by intro _ _; rfl) (hg1 : ∀ v u, ((wipe ((wipe σ (own.map (·.2))).set i (some v)) [j]).set j (some u))[j]? = some (some u) := by intro _ _; rfl)
    (hs : ∀ y, foldedSetIterable iter X.env y = pure y := by intro _; rfl) : EL X (.ListComp (.Name y py) [⟨.Name x p, iter, [], 0⟩, ⟨.Name y py2, .Name x px2, [], 0⟩] scope pos) σ H gs.flatten := fun H1 q Q kq =>
  of_pe (pe_lc2 (own := own) (vs1 := [j]) (tt := tYes) (tt1 := tYes) (g := gName i) (g1 := gName j) (wi1 := iTup X.K (tVar i)) (te := tVar j) C.calm C.nd' (pi_run (.Name x p) iter) (C.blkOk hb) hj
    (fun s0 H0 A cl fp => pg_name (C.blk s0 H0 scope cl A fp hk).nd' ((C.blk s0 H0 scope cl A fp hk).at_ hN) ((C.blk s0 H0 scope cl A fp hk).loc x (locB_of hl)).1 ((C.blk s0 H0 scope cl A fp hk).loc x (locB_of hl)).2)
    (fun s0 H0 A cl fp => pts_nil) (fun s0 H0 A cl fp => pi_tup (pe_var ((C.blk s0 H0 scope cl A fp hk).at_ hN) ((C.blk s0 H0 scope cl A fp hk).vis x (visB_of hv1).1) (visB_of hv1).2.1 (visB_of hv1).2.2))
    (fun s0 H0 A cl fp => pg_name (C.blk s0 H0 scope cl A fp hk).nd' ((C.blk s0 H0 scope cl A fp hk).at_ hN2) ((C.blk s0 H0 scope cl A fp hk).loc y (locB_of hl2)).1 ((C.blk s0 H0 scope cl A fp hk).loc y (locB_of hl2)).2)
    (fun s0 H0 A cl fp => pts_nil) (fun s0 H0 A cl fp => pe_var ((C.blk s0 H0 scope cl A fp hk).at_ hN2) ((C.blk s0 H0 scope cl A fp hk).vis y (visB_of hv2).1) (visB_of hv2).2.1 (visB_of hv2).2.2) hs)
    (src H1 q _ fun J H2 q2 W D hD => by
      have tl : ∀ i, ((gs.take i).flatten).length ≤ 40000 := fun i => by
        refine Nat.le_trans ?_ hz
        have e : gs.flatten = (gs.take i).flatten ++ (gs.drop i).flatten := by rw [← List.flatten_append, List.take_append_drop]
        rw [e, List.length_append]
        exact Nat.le_add_right _ _
      have nl : ∀ i, noLs ((gs.take i).flatten) = true := fun i => noLs_iff.mpr fun d hd => by
        obtain ⟨g, hg, hdg⟩ := List.mem_flatten.mp hd
        exact noLs_iff.mp (hn g (List.mem_of_mem_take hg)) d hdg
      refine ⟨fun i m H => i + m = gs.length ∧ Ex H2 H ∧ ∃ acc, H D = some (.lst acc) ∧ DpAll X.K H acc ((gs.take i).flatten), ⟨gs.length, Nat.zero_add _, Ex.new hD, [], upd_same, .nil⟩, fun n m H hW => ?_⟩
      obtain ⟨em, hex, acc, hacc, hda⟩ := hW
      by_cases hi : n < gs.length
      · refine .inr ⟨W.1 n H (by rw [List.length_map]; exact hi) (hS _ _ hex), fun H' => (n + 1) + (m - 1) = gs.length ∧ Ex H2 H' ∧ ∃ acc, H' D = some (.lst acc) ∧ DpAll X.K H' acc ((gs.take (n + 1)).flatten), fun H' h => ⟨m - 1, by omega, h⟩, fun v H' hy => ?_⟩
        have hd : (gs.map PyData.tuple)[n]? = some (.tuple gs[n]) := by
          rw [List.getElem?_map, List.getElem?_eq_getElem hi]
          rfl
        have hgn : noLs gs[n] = true := hn _ (List.getElem_mem hi)
        obtain ⟨q1, dv⟩ := W.2.2 n H v H' _ hd (hS _ _ hex) hy
        obtain ⟨a, xs, rfl, hx, hxs⟩ := dp_tup dv
        have et : (gs.take (n + 1)).flatten = (gs.take n).flatten ++ gs[n] := by
          rw [List.take_add_one, List.getElem?_eq_getElem hi, List.flatten_append]
          show _ ++ (gs[n] ++ []) = _
          rw [List.append_nil]
        refine ⟨hwp _, ?_⟩
        dsimp only [tYes]
        rw [if_pos rfl]
        refine ⟨.ref a, hg0 _, a, rfl, ⟨xs, hx⟩, fun l r H3 => l + r = gs[n].length ∧ Ex H2 H3 ∧ SqT X.K H3 a xs ∧ DpAll X.K H3 xs gs[n] ∧ ∃ acc, H3 D = some (.lst acc) ∧ DpAll X.K H3 acc ((gs.take n).flatten ++ gs[n].take l), ⟨gs[n].length, Nat.zero_add _, hex.trans q1, hx, hxs, acc, q1 D _ hacc, ?_⟩, fun l r H3 h3 => ?_⟩
        · rw [List.take_zero, List.append_nil]
          exact q1.dpa hda
        · obtain ⟨er, he3, hx3, hxs3, acc3, hacc3, hda3⟩ := h3
          by_cases hl : l < gs[n].length
          · have hd3 := List.getElem?_eq_getElem hl
            obtain ⟨u, hu, du⟩ := dpa_at hxs3 hd3
            refine .inr ⟨⟨xs, u, hx3, hu⟩, fun H4 => (l + 1) + (r - 1) = gs[n].length ∧ Ex H2 H4 ∧ SqT X.K H4 a xs ∧ DpAll X.K H4 xs gs[n] ∧ ∃ acc, H4 D = some (.lst acc) ∧ DpAll X.K H4 acc ((gs.take n).flatten ++ gs[n].take (l + 1)), fun H4 h => ⟨r - 1, by omega, h⟩, fun z H4 hz4 => ?_⟩
            obtain ⟨rfl, hz4⟩ := hz4
            have ez := (hz4 xs hx3).symm.trans hu
            cases ez
            refine ⟨hwp2 _ _, ?_⟩
            dsimp only [tYes]
            rw [if_pos rfl]
            refine ⟨u, hg1 _ _, acc3, hacc3, ?_, by omega, Ex.mut he3 hD, sqt_exT (ExT.lst hacc3) hx3, dpa_exT (ExT.lst hacc3) _ _ hgn hxs3, acc3 ++ [u], upd_same, ?_⟩
            · refine sz_lt ?_
              rw [dpa_len hda3, List.length_append, List.length_take]
              have h1 := tl (n + 1)
              rw [et, List.length_append] at h1
              omega
            · rw [List.take_add_one, hd3, ← List.append_assoc]
              refine dpa_app (dpa_exT (ExT.lst hacc3) _ _ ?_ hda3) (dpa_one (dp_exT (ExT.lst hacc3) _ _ (noLs_get hgn hd3) du))
              refine noLs_iff.mpr fun d hd => ?_
              rcases List.mem_append.mp hd with hd | hd
              · exact noLs_iff.mp (nl n) d hd
              · exact noLs_iff.mp hgn d (List.mem_of_mem_take hd)
          · have el : l = gs[n].length := by omega
            subst el
            refine .inl ⟨⟨xs, hx3, by rw [dpa_len hxs3]; exact Nat.le_refl _⟩, by omega, he3, acc3, hacc3, ?_⟩
            rw [List.take_length] at hda3
            rw [et]
            exact hda3
      · have ei : n = gs.length := by omega
        subst ei
        refine .inl ⟨?_, kq D acc H (fresh_back q2 hD) (q2.trans hex) hacc ?_⟩
        · have h := W.2.1 H (hS _ _ hex)
          rw [List.length_map] at h
          exact h
        · rw [List.take_length] at hda
          exact hda)
end
end KD

namespace KD
open PySem PySem.Spec PyProof.Rows L2 Evl
/-! ### statements -/
def noStar : Expr → Bool
  | .Starred .. => false
  | _ => true
theorem star_no : ∀ a : Expr, noStar a = true → (match a with | .Starred .. => true | _ => false) = false := by
  intro a h
  cases a <;> first | rfl | cases h
def parB (x y : Str) (p py : Pos) (a b : Expr) : Bool := (py.line == p.line) && !(x == y) && noStar a && noStar b && !(foldedForSure 8 a && foldedForSure 8 b) && !(constantsAlone 8 a && constantsAlone 8 b)
def swapOf (names : List Str) (f c : Bool) : Sem (Option (List Str)) := do
  if names.length != 2 || names.eraseDups.length != names.length then return none
  if f then return none
  if c then unsupported "assign.tuple-of-constant-expressions:order-of-the-stores"
  return some names
theorem swap2 {env : Env} {x y : Str} {p py pt pt2 : Pos} {kt k2 : Nat} {a b : Expr} (hk : env.scope.kind = .function) (hx : env.scope.names.lookup x = some .local) (hy : env.scope.names.lookup y = some .local) (h : parB x y p py a b = true) :
    swappedStores [.Tuple [.Name x p, .Name y py] kt pt] (.Tuple [a, b] k2 pt2) env = pure (some [x, y]) := by
  unfold parB at h
  simp only [Bool.and_eq_true, Bool.not_eq_true'] at h
  obtain ⟨⟨⟨⟨⟨h1, h2⟩, h3⟩, h4⟩, h5⟩, h6⟩ := h
  have e1 : env.kindOf x = some .local := hx
  have e2 : env.kindOf y = some .local := hy
  have e3 : env.blockKind = .function := by
    unfold Env.blockKind
    rw [hk]
    rfl
  have hl0 : (([Expr.Name x p, Expr.Name y py].head?.map (·.pos.line)).getD 0) = p.line := rfl
  have hn : ([Expr.Name x p, Expr.Name y py].filterMap fun
      | .Name id pos => if env.kindOf id == some .local && pos.line == (([Expr.Name x p, Expr.Name y py].head?.map (·.pos.line)).getD 0) then some id else none
      | _ => none) = [x, y] := by
    simp only [hl0, List.filterMap_cons, List.filterMap_nil, e1, e2, h1, beq_self_eq_true, Bool.and_self, if_true]
  have hd : ([x, y] : List Str).eraseDups = [x, y] := by
    simp only [List.eraseDups, List.eraseDupsBy, List.eraseDupsBy.loop, List.any_cons, List.any_nil, h2, Bool.or_false, List.reverse_cons, List.reverse_nil, List.nil_append]
    have h2' : (y == x) = false := by
      rw [beq_eq_false_iff_ne] at h2 ⊢
      exact fun z => h2 z.symm
    simp only [h2', List.reverse_cons, List.reverse_nil, List.nil_append]
    rfl
  have hv : ([a, b].any fun | .Starred .. => true | _ => false) = false := by
    show ((match (generalizing := false) a with | .Starred .. => true | _ => false) || ((match (generalizing := false) b with | .Starred .. => true | _ => false) || false)) = false
    rw [star_no a h3, star_no b h4]
    rfl
  have h5' : ([a, b].all (foldedForSure 8)) = false := by
    show (foldedForSure 8 a && (foldedForSure 8 b && true)) = false
    rw [Bool.and_true]
    exact h5
  have h6' : ([a, b].all (constantsAlone 8)) = false := by
    show (constantsAlone 8 a && (constantsAlone 8 b && true)) = false
    rw [Bool.and_true]
    exact h6
  unfold swappedStores
  show (if (!(true || false) || false || env.blockKind != .function) = true then pure none else if ([a, b].any fun | .Starred .. => true | _ => false) = true then pure none else _) = _
  rw [e3]
  show (if ([a, b].any fun | .Starred .. => true | _ => false) = true then pure none else _) = _
  rw [hv]
  show swapOf ([Expr.Name x p, Expr.Name y py].filterMap fun
      | .Name id pos => if env.kindOf id == some .local && pos.line == (([Expr.Name x p, Expr.Name y py].head?.map (·.pos.line)).getD 0) then some id else none
      | _ => none) ([a, b].all (foldedForSure 8)) ([a, b].all (constantsAlone 8)) = _
  rw [hn, h5', h6']
  unfold swapOf
  rw [hd]
  rfl
theorem swap_none {env : Env} {t1 t2 : Expr} {pt pt2 : Pos} {kt k2 : Nat} {a b : Expr} (hn : (([t1, t2].filterMap fun
      | .Name id pos => if env.kindOf id == some .local && pos.line == (([t1, t2].head?.map (·.pos.line)).getD 0) then some id else none
      | _ => none).length != 2) = true) : swappedStores [.Tuple [t1, t2] kt pt] (.Tuple [a, b] k2 pt2) env = pure none := by
  show (if (!(true || false) || false || env.blockKind != .function) = true then pure none else if ([a, b].any fun | .Starred .. => true | _ => false) = true then pure none else
    swapOf ([t1, t2].filterMap fun
      | .Name id pos => if env.kindOf id == some .local && pos.line == (([t1, t2].head?.map (·.pos.line)).getD 0) then some id else none
      | _ => none) ([a, b].all (foldedForSure 8)) ([a, b].all (constantsAlone 8))) = _
  unfold swapOf
  rw [hn]
  split
  · rfl
  · split
    · rfl
    · rfl
theorem swap_cell1 {env : Env} {x y : Str} {p py pt pt2 : Pos} {kt k2 : Nat} {a b : Expr} (hx : env.scope.names.lookup x = some .cell) : swappedStores [.Tuple [.Name x p, .Name y py] kt pt] (.Tuple [a, b] k2 pt2) env = pure none := by
  refine swap_none ?_
  have e1 : (env.kindOf x == some .local) = false := by
    show (env.scope.names.lookup x == some .local) = false
    rw [hx]
    decide
  simp only [List.filterMap_cons, List.filterMap_nil, e1, Bool.false_and, Bool.false_eq_true, if_false]
  split <;> rfl
theorem swap_cell2 {env : Env} {x y : Str} {p py pt pt2 : Pos} {kt k2 : Nat} {a b : Expr} (hx : env.scope.names.lookup y = some .cell) : swappedStores [.Tuple [.Name x p, .Name y py] kt pt] (.Tuple [a, b] k2 pt2) env = pure none := by
  refine swap_none ?_
  have e1 : (env.kindOf y == some .local) = false := by
    show (env.scope.names.lookup y == some .local) = false
    rw [hx]
    decide
  simp only [List.filterMap_cons, List.filterMap_nil, e1, Bool.false_and, Bool.false_eq_true, if_false]
  split <;> rfl
theorem swap_nest {env : Env} {x y z : Str} {p py pz pt pt1 pt2 : Pos} {kt k1 k2 : Nat} {a b : Expr} : swappedStores [.Tuple [.Name x p, .Tuple [.Name y py, .Name z pz] k1 pt1] kt pt] (.Tuple [a, b] k2 pt2) env = pure none := by
  refine swap_none ?_
  simp only [List.filterMap_cons, List.filterMap_nil]
  split <;> rfl
theorem swap_fold {env : Env} {t1 t2 : Expr} {pt pt2 : Pos} {kt k2 : Nat} {a b : Expr} (hf : ([a, b].all (foldedForSure 8)) = true) : swappedStores [.Tuple [t1, t2] kt pt] (.Tuple [a, b] k2 pt2) env = pure none := by
  show (if (!(true || false) || false || env.blockKind != .function) = true then pure none else if ([a, b].any fun | .Starred .. => true | _ => false) = true then pure none else
    swapOf ([t1, t2].filterMap fun
      | .Name id pos => if env.kindOf id == some .local && pos.line == (([t1, t2].head?.map (·.pos.line)).getD 0) then some id else none
      | _ => none) ([a, b].all (foldedForSure 8)) ([a, b].all (constantsAlone 8))) = _
  unfold swapOf
  rw [hf]
  split
  · rfl
  · split
    · rfl
    · split <;> rfl
section
variable {X : Cx} {N : List Str} {sc : Scope} {k : Nat} {σ : L2.St} {H H' : Hp} {e a b c tg : Expr} {es elts : List Expr} {d d1 d2 d3 : PyData} {ds ds2 : List PyData} {x y : Str} {pos p tpos py : Pos} {kk : Nat} {En : Ends} {st : Stmt} {rest sa sb : List Stmt}
theorem sb_nil (h : En.nx σ H) : runB X [] En σ H := of_pb pss_nil h
theorem sb_cons (h : runS X st { En with nx := runB X rest En } σ H) : runB X (st :: rest) En σ H := of_pb (pss_cons (ps_run st) (pb_run rest)) h
theorem sb_one (h : runS X st En σ H) : runB X [st] En σ H := of_pb (pss_one (ps_run st)) h
theorem st_asg [C : Cn X N sc k] (i : Nat) (h : ED X e σ H d) (kq : ∀ v H1, Ex H H1 → Dp X.K H1 v d → En.nx (σ.set i (some v)) H1) (hN : N[i]? = some x := by rfl) (hl : locB sc x = true := by decide +kernel) (hs : swapsWith e (some (.Name x p)) pos.line X.env = pure false := by rfl) :
    runS X (.Assign [.Name x p] e pos) En σ H := of_ps (ps_set C.nd' (C.at_ hN) (C.loc x (locB_of hl)).1 (pe_run e) hs (C.loc x (locB_of hl)).2) (h.go kq)
theorem st_asgL [C : Cn X N sc k] (i : Nat) (h : EL X e σ H ds) (kq : ∀ r xs H1, H r = none → Ex H H1 → H1 r = some (.lst xs) → DpAll X.K H1 xs ds → En.nx (σ.set i (some (.ref r))) H1) (hN : N[i]? = some x := by rfl) (hl : locB sc x = true := by decide +kernel) (hs : swapsWith e (some (.Name x p)) pos.line X.env = pure false := by rfl) :
    runS X (.Assign [.Name x p] e pos) En σ H := of_ps (ps_set C.nd' (C.at_ hN) (C.loc x (locB_of hl)).1 (pe_run e) hs (C.loc x (locB_of hl)).2) (h.go kq)
theorem st_ret (h : ED X e σ H d) (kq : ∀ v H1, Ex H H1 → Dp X.K H1 v d → En.rt v H1) : runS X (.Return (some e) pos) En σ H := of_ps (ps_ret (pe_run e)) (h.go kq)
theorem st_retL (h : EL X e σ H ds) (kq : ∀ r xs H1, H r = none → Ex H H1 → H1 r = some (.lst xs) → DpAll X.K H1 xs ds → En.rt (.ref r) H1) : runS X (.Return (some e) pos) En σ H := of_ps (ps_ret (pe_run e)) (h.go kq)
theorem st_expr (h : ED X e σ H d) (kq : ∀ H1, Ex H H1 → En.nx σ H1) (hs : swapsWith e none pos.line X.env = pure false := by rfl) : runS X (.Expr e pos) En σ H := of_ps (ps_expr (pe_run e) hs) (h.go fun _ H1 q _ => kq H1 q)
theorem st_if {t : Bool} (h : ET X c σ H t) (h1 : t = true → ∀ H1, Ex H H1 → runB X sa En σ H1) (h2 : t = false → ∀ H1, Ex H H1 → runB X sb En σ H1) : runS X (.If c sa sb pos) En σ H := of_ps (ps_if (pt_run c) (pb_run sa) (pb_run sb)) (h.go fun H1 q => by
  cases t with
  | true =>
    show runB X sa En σ H1
    exact h1 rfl H1 q
  | false =>
    show runB X sb En σ H1
    exact h2 rfl H1 q)
/-- a, b = e, e no display -/
theorem st_unp2 [C : Cn X N sc k] (i j : Nat) {kt : Nat} {pt : Pos} (h : ED X e σ H (.tuple [d1, d2])) (kq : ∀ v1 v2 H1, Ex H H1 → Dp X.K H1 v1 d1 → Dp X.K H1 v2 d2 → En.nx ((σ.set i (some v1)).set j (some v2)) H1) (hN : N[i]? = some x := by rfl) (hN2 : N[j]? = some y := by rfl) (hl : locB sc x = true := by decide +kernel) (hl2 : locB sc y = true := by decide +kernel)
    (hs : swapsWithSole [.Tuple [.Name x p, .Name y py] kt pt] e pos.line X.env = pure false := by rfl) (hw : swappedStores [.Tuple [.Name x p, .Name y py] kt pt] e X.env = pure none := by rfl) : runS X (.Assign [.Tuple [.Name x p, .Name y py] kt pt] e pos) En σ H :=
  of_ps (ps_asg (pe_run e) (pg_tup (n := 2) C.calm (pgs_cons (pg_name C.nd' (C.at_ hN) (C.loc x (locB_of hl)).1 (C.loc x (locB_of hl)).2) (pgs_cons (pg_name C.nd' (C.at_ hN2) (C.loc y (locB_of hl2)).1 (C.loc y (locB_of hl2)).2) pgs_nil))) hs hw) (h.go fun v H1 q dv => by
    obtain ⟨r, xs, rfl, hx, hxs⟩ := dp_tup dv
    obtain ⟨v1, v2, rfl, h1, h2⟩ := dpa2 hxs
    exact ⟨r, _, rfl, hx, rfl, v1, [v2], rfl, v2, [], rfl, rfl, kq v1 v2 H1 q h1 h2⟩)
/-- a, b = e1, e2: plain local names -/
theorem st_parG [C : Cn X N sc k] (i j : Nat) {kt k2 : Nat} {pt pt2 : Pos} (h : run X a σ H fun v1 H1 => run X b σ H1 fun v2 H2 => En.nx ((σ.set i (some v1)).set j (some v2)) H2) (hij : i ≠ j := by decide) (hN : N[i]? = some x := by rfl) (hN2 : N[j]? = some y := by rfl) (hl : decide (sc.names.lookup x = some .local) = true := by decide +kernel) (hl2 : decide (sc.names.lookup y = some .local) = true := by decide +kernel)
    (hw : parB x y p py a b = true := by decide +kernel) (hs : swapsWithSole [.Tuple [.Name x p, .Name y py] kt pt] (.Tuple [a, b] k2 pt2) pos.line X.env = pure false := by rfl) (he : starEach [a, b] X.env = (false, eval a X.env) :: starEach [b] X.env := by rfl) (he2 : starEach [b] X.env = (false, eval b X.env) :: starEach [] X.env := by rfl) :
    runS X (.Assign [.Tuple [.Name x p, .Name y py] kt pt] (.Tuple [a, b] k2 pt2) pos) En σ H :=
  of_ps (ps_par C.calm C.nd' (C.at_ hN) (C.at_ hN2) hij (C.loc1 x (of_decide_eq_true hl)) (C.loc1 y (of_decide_eq_true hl2)) (pa_cons (pe_run a) (pa_cons (pe_run b) pa_nil he2) he) (swap2 C.kind (C.loc1 x (of_decide_eq_true hl)) (C.loc1 y (of_decide_eq_true hl2)) hw) hs)
    (show run X a σ H fun v1 H1 => run X b σ H1 fun v2 H2 => ∃ v w, [v1, v2] = [v, w] ∧ En.nx ((σ.set i (some v)).set j (some w)) H2 from ⟨fun pins s I => thn (h.go pins s I) fun u s1 ⟨v1, H1, I1, r1, q1⟩ => ⟨v1, H1, I1, r1, ⟨fun pins s I => thn (q1.go pins s I) fun u s1 ⟨v2, H2, I2, r2, q2⟩ => ⟨v2, H2, I2, r2, v1, v2, rfl, q2⟩⟩⟩⟩)
theorem st_par [C : Cn X N sc k] (i j : Nat) {kt k2 : Nat} {pt pt2 : Pos} (h1 : ED X a σ H d1) (h2 : ED X b σ H d2) (kq : ∀ v1 v2 H1, Ex H H1 → Dp X.K H1 v1 d1 → Dp X.K H1 v2 d2 → En.nx ((σ.set i (some v1)).set j (some v2)) H1) (hij : i ≠ j := by decide) (hN : N[i]? = some x := by rfl) (hN2 : N[j]? = some y := by rfl) (hl : decide (sc.names.lookup x = some .local) = true := by decide +kernel) (hl2 : decide (sc.names.lookup y = some .local) = true := by decide +kernel)
    (hw : parB x y p py a b = true := by decide +kernel) (hs : swapsWithSole [.Tuple [.Name x p, .Name y py] kt pt] (.Tuple [a, b] k2 pt2) pos.line X.env = pure false := by rfl) (he : starEach [a, b] X.env = (false, eval a X.env) :: starEach [b] X.env := by rfl) (he2 : starEach [b] X.env = (false, eval b X.env) :: starEach [] X.env := by rfl) :
    runS X (.Assign [.Tuple [.Name x p, .Name y py] kt pt] (.Tuple [a, b] k2 pt2) pos) En σ H :=
  st_parG i j (h1.go fun v1 H1 q1 e1 => (h2.mono q1).go fun v2 H2 q2 e2 => kq v1 v2 H2 (q1.trans q2) (q2.dp e1) e2) hij hN hN2 hl hl2 hw hs he he2
/-- .. where the pair is made and unpacked: what is wanted of the target stands open -/
theorem st_parC [C : Cn X N sc k] {t1 t2 : Expr} {kt k2 : Nat} {pt pt2 : Pos} (h : run X a σ H fun v1 H1 => run X b σ H1 fun v2 H2 => ∀ r, H2 r = none → runG X (.Tuple [t1, t2] kt pt) (.ref r) σ (upd H2 r (.tup [v1, v2])) En.nx)
    (hw : swappedStores [.Tuple [t1, t2] kt pt] (.Tuple [a, b] k2 pt2) X.env = pure none) (hs : swapsWithSole [.Tuple [t1, t2] kt pt] (.Tuple [a, b] k2 pt2) pos.line X.env = pure false := by rfl) (he : starEach [a, b] X.env = (false, eval a X.env) :: starEach [b] X.env := by rfl) (he2 : starEach [b] X.env = (false, eval b X.env) :: starEach [] X.env := by rfl) :
    runS X (.Assign [.Tuple [t1, t2] kt pt] (.Tuple [a, b] k2 pt2) pos) En σ H :=
  of_ps (ps_asg (pe_tup (pa_cons (pe_run a) (pa_cons (pe_run b) pa_nil he2) he)) (pg_run _) hs hw)
    (show run X a σ H fun v1 H1 => run X b σ H1 fun v2 H2 => 2 ≤ sizeLine ∧ ∀ r, H2 r = none → runG X (.Tuple [t1, t2] kt pt) (.ref r) σ (upd H2 r (.tup [v1, v2])) En.nx from ⟨fun pins s I => thn (h.go pins s I) fun u s1 ⟨v1, H1, I1, r1, q1⟩ => ⟨v1, H1, I1, r1, ⟨fun pins s I => thn (q1.go pins s I) fun u s1 ⟨v2, H2, I2, r2, q2⟩ => ⟨v2, H2, I2, r2, by decide, q2⟩⟩⟩⟩)
/-- targets at values that are known -/
theorem tg_twoV [C : Cn X N sc k] (i j : Nat) {r : Addr} {v1 v2 : V} {kt : Nat} {pt : Pos} {Q : L2.St → Hp → Prop} (hr : H r = some (.tup [v1, v2])) (h : Q ((σ.set i (some v1)).set j (some v2)) H) (hN : N[i]? = some x := by rfl) (hN2 : N[j]? = some y := by rfl) (hl : locB sc x = true := by decide +kernel) (hl2 : locB sc y = true := by decide +kernel) :
    runG X (.Tuple [.Name x p, .Name y py] kt pt) (.ref r) σ H Q :=
  of_pg (pg_tup (n := 2) C.calm (pgs_cons (pg_name C.nd' (C.at_ hN) (C.loc x (locB_of hl)).1 (C.loc x (locB_of hl)).2) (pgs_cons (pg_name C.nd' (C.at_ hN2) (C.loc y (locB_of hl2)).1 (C.loc y (locB_of hl2)).2) pgs_nil))) ⟨r, _, rfl, st_of hr, rfl, v1, [v2], rfl, v2, [], rfl, rfl, h⟩
theorem iop_mulW : OpR X (inplaceOp .Mult) (rI CMulW fun i j => .int (i * j)) := opI fun _ _ _ _ _ _ _ hc q => imul_int q hc.ok
/-- x *= e -/
theorem st_mul [C : Cn X N sc k] (i : Nat) {m n : Int} (hv : σ[i]? = some (some (.int m))) (h : ED X e σ H (.int n)) (hm : CMulW m n) (kq : ∀ H1, Ex H H1 → En.nx (σ.set i (some (.int (m * n)))) H1) (hN : N[i]? = some x := by rfl) (hl : locB sc x = true := by decide +kernel) : runS X (.AugAssign (.Name x p) .Mult e pos) En σ H :=
  of_ps (ps_aug (ti := rI CMulW fun i j => .int (i * j)) C.nd' (C.at_ hN) (C.loc x (locB_of hl)).1 (pe_run e) iop_mulW (C.loc x (locB_of hl)).2) ⟨.int m, hv, h.go fun v H1 q dv => ⟨m, n, rfl, dp_int dv, hm, kq H1 q⟩⟩
/-- while -/
theorem st_while [C : Cn X N sc k] {body : List Stmt} (W : Nat → L2.St → Hp → Prop) (m0 : Nat) (h0 : W m0 σ H)
    (hs : ∀ m σ' H', W m σ' H' → ∃ t, ET X c σ' H' t ∧ (t = true → ∀ H1, Ex H' H1 → ∃ Nx : L2.St → Hp → Prop, (∀ σ2 H2, Nx σ2 H2 → ∃ m', m' < m ∧ W m' σ2 H2) ∧ runB X body { En with nx := Nx, ct := Nx, bk := En.nx } σ' H1) ∧ (t = false → ∀ H1, Ex H' H1 → En.nx σ' H1)) : runS X (.While c body [] pos) En σ H :=
  of_ps (ps_while C.own (pt_run c) (pb_run body)) ⟨W, ⟨m0, h0⟩, fun m σ' H' hw => by
    obtain ⟨t, ht, h1, h2⟩ := hs m σ' H' hw
    refine ht.go fun H1 q => ?_
    cases t with
    | true => exact h1 rfl H1 q
    | false => exact h2 rfl H1 q⟩
/-- for: Pv by the turn, chosen at the loop's heap -/
theorem st_for [C : Cn X N sc k] {iter : Expr} {body : List Stmt} {S : Hp → Hp → Prop} (src : EI X tg iter σ H S ds)
    (hp : ∀ H2, Ex H H2 → ∃ Pv : Nat → L2.St → Hp → Prop, Pv 0 σ H2 ∧ (∀ i σ' H', Pv i σ' H' → S H2 H') ∧
      (∀ i d v σ' H' H'', ds[i]? = some d → Pv i σ' H' → Ex H' H'' → Dp X.K H'' v d → runG X tg v σ' H'' fun σ2 H3 => runB X body { En with nx := Pv (i + 1), ct := Pv (i + 1), bk := En.nx } σ2 H3) ∧ ∀ σ' H', Pv ds.length σ' H' → En.nx σ' H')
    (hs : ∀ x, foldedSetIterable iter X.env x = pure x := by intro _; rfl) : runS X (.For tg iter body [] pos) En σ H :=
  of_ps (ps_for C.own C.calm (pi_run tg iter) (pg_run tg) (pb_run body) hs) (src H (Ex.refl H) _ fun J H2 q W => by
    obtain ⟨Pv, h0, hS, ht, hd⟩ := hp H2 q
    refine ⟨fun i m σ' H' => i + m = ds.length ∧ Pv i σ' H', ⟨ds.length, Nat.zero_add _, h0⟩, fun i m σ' H' hW => ?_⟩
    obtain ⟨em, hP⟩ := hW
    by_cases hi : i < ds.length
    · refine .inr ⟨W.1 i H' hi (hS i σ' H' hP), Pv (i + 1), fun σ2 H3 h => ⟨m - 1, by omega, by omega, h⟩, fun v H'' hy => ?_⟩
      obtain ⟨q1, dv⟩ := W.2.2 i H' v H'' _ (List.getElem?_eq_getElem hi) (hS i σ' H' hP) hy
      exact ht i _ v σ' H' H'' (List.getElem?_eq_getElem hi) hP q1 dv
    · have ei : i = ds.length := by omega
      subst ei
      exact .inl ⟨W.2.1 H' (hS _ σ' H' hP), hd σ' H' hP⟩)
/-- targets -/
theorem tg_name [C : Cn X N sc k] (i : Nat) {v : V} {Q : L2.St → Hp → Prop} (h : Q (σ.set i (some v)) H) (hN : N[i]? = some x := by rfl) (hl : locB sc x = true := by decide +kernel) : runG X (.Name x p) v σ H Q :=
  of_pg (pg_name C.nd' (C.at_ hN) (C.loc x (locB_of hl)).1 (C.loc x (locB_of hl)).2) h
theorem tg_two [C : Cn X N sc k] (i j : Nat) {v : V} {kt : Nat} {pt : Pos} {Q : L2.St → Hp → Prop} (dv : Dp X.K H v (.tuple [d1, d2])) (h : ∀ v1 v2, Dp X.K H v1 d1 → Dp X.K H v2 d2 → Q ((σ.set i (some v1)).set j (some v2)) H) (hN : N[i]? = some x := by rfl) (hN2 : N[j]? = some y := by rfl) (hl : locB sc x = true := by decide +kernel) (hl2 : locB sc y = true := by decide +kernel) :
    runG X (.Tuple [.Name x p, .Name y py] kt pt) v σ H Q := by
  obtain ⟨r, xs, rfl, hx, hxs⟩ := dp_tup dv
  obtain ⟨v1, v2, rfl, h1, h2⟩ := dpa2 hxs
  exact of_pg (pg_tup (n := 2) C.calm (pgs_cons (pg_name C.nd' (C.at_ hN) (C.loc x (locB_of hl)).1 (C.loc x (locB_of hl)).2) (pgs_cons (pg_name C.nd' (C.at_ hN2) (C.loc y (locB_of hl2)).1 (C.loc y (locB_of hl2)).2) pgs_nil))) ⟨r, _, rfl, hx, rfl, v1, [v2], rfl, v2, [], rfl, rfl, h v1 v2 h1 h2⟩
/-- a, (b, c) = .. -/
theorem tg_three [C : Cn X N sc k] (i j l : Nat) {z : Str} {pz : Pos} {v : V} {kt kt2 : Nat} {pt pt2 : Pos} {Q : L2.St → Hp → Prop} (dv : Dp X.K H v (.tuple [d1, .tuple [d2, d3]])) (h : ∀ v1 v2 v3, Dp X.K H v1 d1 → Dp X.K H v2 d2 → Dp X.K H v3 d3 → Q (((σ.set i (some v1)).set j (some v2)).set l (some v3)) H)
    (hN : N[i]? = some x := by rfl) (hN2 : N[j]? = some y := by rfl) (hN3 : N[l]? = some z := by rfl) (hl : locB sc x = true := by decide +kernel) (hl2 : locB sc y = true := by decide +kernel) (hl3 : locB sc z = true := by decide +kernel) :
    runG X (.Tuple [.Name x p, .Tuple [.Name y py, .Name z pz] kt2 pt2] kt pt) v σ H Q := by
  obtain ⟨r, xs, rfl, hx, hxs⟩ := dp_tup dv
  obtain ⟨v1, w, rfl, h1, hw⟩ := dpa2 hxs
  obtain ⟨r2, ys, rfl, hy, hys⟩ := dp_tup hw
  obtain ⟨v2, v3, rfl, h2, h3⟩ := dpa2 hys
  exact of_pg (pg_tup (n := 2) C.calm (pgs_cons (pg_name C.nd' (C.at_ hN) (C.loc x (locB_of hl)).1 (C.loc x (locB_of hl)).2) (pgs_cons (pg_tup (n := 2) C.calm (pgs_cons (pg_name C.nd' (C.at_ hN2) (C.loc y (locB_of hl2)).1 (C.loc y (locB_of hl2)).2) (pgs_cons (pg_name C.nd' (C.at_ hN3) (C.loc z (locB_of hl3)).1 (C.loc z (locB_of hl3)).2) pgs_nil))) pgs_nil)))
    ⟨r, _, rfl, hx, rfl, v1, [.ref r2], rfl, .ref r2, [], rfl, ⟨r2, _, rfl, hy, rfl, v2, [v3], rfl, v3, [], rfl, rfl, rfl, h v1 v2 v3 h1 h2 h3⟩⟩
end
/-! ### a def -/
/-- the context of a def's body -/
theorem cn_def {P : Program} {w : World} {K : PySem.W.Frag} {mg : Str → Option Value} {base : Heap} {N ps : List Str} {qual : Str} {sc : Scope} {f : Addr} {cd : Value} {A : Around} {outer : List Env} {s : Shared} {H : Hp} {E : XK} {k : Nat} (S : FnScope N ps sc) (hr : Room k (A.deeper (envOfC qual sc s.heap.objs.size f cd))) :
    Cn (cxOf C8.CX0 P w K mg base N qual sc f cd A outer s H E).nox N sc k where
  hN := rfl
  vis := fun x h => h
  loc := fun x h => ⟨h, .inl rfl⟩
  loc1 := fun x h => h
  cel := fun x h => h
  gl := fun x h => h
  cap := fun x h => h
  kind := S.kind
  calm := rfl
  nd := S.nd
  room := hr
  own := PassesOwn.never
theorem def_ok {P : Program} {w : World} {K : PySem.W.Frag} {mg : Str → Option Value} {base : Heap} {x : Str} {st : Stmt} {f : Addr} {fd : FuncData} {N ps : List Str} {k : Nat} {F : List PyData → PyData → Prop} (D : C8.Def K mg x st f fd) (b : Binds K fd ps []) (hS : C8.scC N ps (C8.fnScope st) = true) (hl : ∀ ds d, F ds d → ds.length = ps.length)
    (body : ∀ (X : Cx), X.prog = P → X.w = w → X.K = K → X.mg = mg → X.base = base → Cn X N (C8.fnScope st) k → ∀ (H : Hp) (vs : List V) (ds : List PyData) (d : PyData) (En : Ends), DpAll X.K H vs ds → F ds d → (∀ v H', Ex H H' → Dp X.K H' v d → En.rt v H') → (∀ H', Ex H H' → Dp X.K H' V.non d → ∀ σ', En.nx σ' H') → runB X (C8.fnBody st) En (L2.start N vs) H) :
    C8.Cal P w K mg base (k + 1) x (spD K F) [] :=
  C8.cal0 D b .nil (C8.fnScope_by hS) (fun vs H Q E h => by
    obtain ⟨ds, d, h1, h2, _⟩ := h
    rw [dpa_len h1, hl ds d h2]) (fun cdv A outer s H vs Q E hr h => by
    obtain ⟨ds, d, h1, h2, h3⟩ := h
    refine ⟨runB _ _, pb_run _, body _ rfl rfl rfl rfl rfl (cn_def (C8.fnScope_by hS) hr) H vs ds d _ h1 h2 (fun v H' q dv => h3 v H' q dv) fun H' q dv σ' => h3 _ H' q dv⟩)
end KD

namespace K9
open PySem PySem.Spec PyProof.Rows L2 KD
open Evl (Ex sq_of st_of fresh_back ex_l ex_t)
def topS (i : Nat) : Stmt := PySem.Challenge.pw_anymargin_k09_whole_next_classes_and_put.main.body.getD i (.Pass ⟨0, 0, 0, 0⟩)
/-! ### fractions as data -/
def fr (q : Int × Int) : PyData := .tuple [.int q.1, .int q.2]
def GREAT : Int := 1000000000000000000000000000000000000000000000000000000000000
def gcdI (a b : Int) : Int := (Nat.gcd a.toNat b.toNat : Nat)
def Good (q : Int × Int) : Prop := 0 ≤ q.1 ∧ 0 < q.2 ∧ q.1 < GREAT ∧ q.2 < GREAT ∧ gcdI q.1 q.2 = 1
def low (t b : Int) : Int × Int := (t / gcdI (t.natAbs : Int) b, b / gcdI (t.natAbs : Int) b)
theorem gcdI_pos {a b : Int} (h : 0 < b) : 0 < gcdI a b := by
  unfold gcdI
  have : 0 < Nat.gcd a.toNat b.toNat := Nat.gcd_pos_of_pos_right _ (by omega)
  omega
theorem gcdI_le {a b : Int} (h : 0 < b) : gcdI a b ≤ b := by
  unfold gcdI
  have : Nat.gcd a.toNat b.toNat ≤ b.toNat := Nat.gcd_le_right _ (by omega)
  omega
theorem gcdI_step {a b : Int} (ha : 0 ≤ a) (hb : 0 < b) : gcdI b (a % b) = gcdI a b := by
  unfold gcdI
  have e : (a % b).toNat = a.toNat % b.toNat := by
    obtain ⟨m, rfl⟩ := Int.eq_ofNat_of_zero_le ha
    obtain ⟨n, rfl⟩ := Int.eq_ofNat_of_zero_le (Int.le_of_lt hb)
    rfl
  rw [e, Nat.gcd_comm b.toNat, ← Nat.gcd_rec, Nat.gcd_comm]
theorem gcdI_zero {a : Int} (h : 0 ≤ a) : gcdI a 0 = a := by
  unfold gcdI
  show ((Nat.gcd a.toNat 0 : Nat) : Int) = a
  rw [Nat.gcd_zero_right]
  omega
/-- an int below 2 ^ n in size -/
def Sm (n : Nat) (i : Int) : Prop := i.natAbs < 2 ^ n
theorem Sm.mono {m n : Nat} {i : Int} (h : Sm m i) (hm : m ≤ n) : Sm n i := Nat.lt_of_lt_of_le h (Nat.pow_le_pow_right (by decide) hm)
theorem Sm.mul {m n : Nat} {i j : Int} (h : Sm m i) (h2 : Sm n j) : Sm (m + n) (i * j) := wide_lt h h2
theorem Sm.le {n : Nat} {i j : Int} (h0 : 0 ≤ i) (h : i ≤ j) (hj : Sm n j) : Sm n i := wide_le h0 h hj
theorem Sm.add {m : Nat} {i j : Int} (h : Sm m i) (h2 : Sm m j) : Sm (m + 1) (i + j) := by
  unfold Sm at *
  rw [Nat.pow_succ]
  omega
theorem Sm.sub {m : Nat} {i j : Int} (h : Sm m i) (h2 : Sm m j) : Sm (m + 1) (i - j) := by
  unfold Sm at *
  rw [Nat.pow_succ]
  omega
theorem Sm.mulW {m n : Nat} {i j : Int} (h : Sm m i) (h2 : Sm n j) (h0 : 0 < m := by decide) (h1 : 0 < n := by decide) (hl : m + n ≤ 1000000 := by decide) : CMulW i j := wide_mul h h2 h0 h1 hl
theorem Sm.divW {n : Nat} {i j : Int} (h : Sm n j) (hj : 0 < j) (h0 : 0 < n := by decide) (hl : n ≤ 9000 := by decide) : CDivW i j := wide_div hj h h0 hl
theorem sm_great {i : Int} (h0 : 0 ≤ i) (h : i < GREAT) : Sm 200 i := by
  unfold Sm GREAT at *
  omega
theorem abs_eq (t : Int) : (if t < 0 then -t else t) = (t.natAbs : Int) := by
  split <;> omega
/-! ### is_whole, is_short, is_from -/
section
variable {P : Program} {w : World} {K : PySem.W.Frag} {mg : Str → Option Value} {base : Heap} {f : Addr} {fd : FuncData}
def FWhole (ds : List PyData) (d : PyData) : Prop := ∃ i : Int, ds = [.int i] ∧ d = .bool true
theorem ok_is_whole [B : Bl mg] (D : C8.Def K mg "is_whole" (topS 7) f fd) (b : Binds K fd ["value"] []) : C8.Cal P w K mg base 1 "is_whole" (spD K FWhole) [] := by
  refine def_ok (N := ["value"]) D b (by decide +kernel) (fun ds d h => by obtain ⟨i, rfl, _⟩ := h; rfl) ?_
  rintro X rfl rfl rfl rfl rfl C H vs ds d En hv hF q qn
  obtain ⟨i, rfl, rfl⟩ := hF
  obtain ⟨v, rfl, dv⟩ := dpa1 hv
  exact sb_one (st_ret (ED.is (ed_and (ed_isi "int" true (ed_var 0 rfl dv) B.int boot_int) fun _ => ed_and1 (ed_not (ed_isi "int" false (ed_var 0 rfl dv) B.bool boot_bool))) rfl) q)
def FShort (ds : List PyData) (d : PyData) : Prop := ∃ i : Int, ds = [.int i] ∧ -GREAT < i ∧ i < GREAT ∧ d = .bool true
theorem ok_is_short [B : Bl mg] (G : GI mg "GREATEST" GREAT) (D : C8.Def K mg "is_short" (topS 8) f fd) (b : Binds K fd ["value"] []) (c1 : C8.Cal P w K mg base 1 "is_whole" (spD K FWhole) []) : C8.Cal P w K mg base 2 "is_short" (spD K FShort) [] := by
  refine def_ok (N := ["value"]) D b (by decide +kernel) (fun ds d h => by obtain ⟨i, rfl, _⟩ := h; rfl) ?_
  rintro X rfl rfl rfl rfl rfl C H vs ds d En hv hF q qn
  obtain ⟨i, rfl, h1, h2, rfl⟩ := hF
  obtain ⟨v, rfl, dv⟩ := dpa1 hv
  refine sb_one (st_ret (ED.is (ed_and (ed_call c1 (ea_cons (ed_var 0 rfl dv) ea_nil) ⟨i, rfl, rfl⟩) fun _ => ed_and1 (ed_chain od_lt od_lt (ed_neg (ed_glob G)) (ed_var 0 rfl dv) (ed_glob G))) ?_) q)
  rw [decide_eq_true h1, decide_eq_true h2]
  rfl
def FFrom (ds : List PyData) (d : PyData) : Prop := ∃ i a b : Int, ds = [.int i, .int a, .int b] ∧ d = .bool (decide (a ≤ i) && decide (i ≤ b))
theorem ok_is_from [B : Bl mg] (D : C8.Def K mg "is_from" (topS 9) f fd) (b : Binds K fd ["value", "least", "most"] []) (c1 : C8.Cal P w K mg base 1 "is_whole" (spD K FWhole) []) : C8.Cal P w K mg base 2 "is_from" (spD K FFrom) [] := by
  refine def_ok (N := ["value", "least", "most"]) D b (by decide +kernel) (fun ds d h => by obtain ⟨i, a, b, rfl, _⟩ := h; rfl) ?_
  rintro X rfl rfl rfl rfl rfl C H vs ds d En hv hF q qn
  obtain ⟨i, m, n, rfl, rfl⟩ := hF
  cases hv with
  | cons dv h =>
    obtain ⟨v2, v3, rfl, d2, d3⟩ := dpa2 h
    exact sb_one (st_ret (ED.is (ed_and (ed_call c1 (ea_cons (ed_var 0 rfl dv) ea_nil) ⟨i, rfl, rfl⟩) fun _ => ed_and1 (ed_chain od_le od_le (ed_var 1 rfl d2) (ed_var 0 rfl dv) (ed_var 2 rfl d3))) rfl) q)
/-! ### shared_in, lowest, whole_in -/
def FGcd (ds : List PyData) (d : PyData) : Prop := ∃ a b : Int, ds = [.int a, .int b] ∧ 0 ≤ a ∧ 0 ≤ b ∧ d = .int (gcdI a b)
theorem ok_shared_in [B : Bl mg] (D : C8.Def K mg "shared_in" (topS 12) f fd) (b : Binds K fd ["one", "other"] []) : C8.Cal P w K mg base 1 "shared_in" (spD K FGcd) [] := by
  refine def_ok (N := ["one", "other"]) D b (by decide +kernel) (fun ds d h => by obtain ⟨a, b, rfl, _⟩ := h; rfl) ?_
  rintro X rfl rfl rfl rfl rfl C H vs ds d En hv hF q qn
  obtain ⟨a, b, rfl, ha, hb, rfl⟩ := hF
  obtain ⟨v1, v2, rfl, d1, d2⟩ := dpa2 hv
  cases d1
  cases d2
  refine sb_cons (st_while (fun m σ H' => ∃ x y : Int, σ = [some (.int x), some (.int y)] ∧ 0 ≤ x ∧ 0 ≤ y ∧ gcdI x y = gcdI a b ∧ m = y.toNat ∧ Ex H H') b.toNat ⟨a, b, rfl, ha, hb, rfl, rfl, Ex.refl _⟩ fun m σ H' hW => ?_)
  obtain ⟨x, y, rfl, hx, hy, hg, rfl, hE⟩ := hW
  refine ⟨_, et_cmp od_gt (ed_var 1 rfl (.int y)) ed_int, fun ht H1 q1 => ?_, fun ht H1 q1 => ?_⟩
  · have hp : 0 < y := of_decide_eq_true ht
    refine ⟨fun σ2 H2 => ∃ x2 y2 : Int, σ2 = [some (.int x2), some (.int y2)] ∧ 0 ≤ x2 ∧ 0 ≤ y2 ∧ gcdI x2 y2 = gcdI a b ∧ y2 < y ∧ Ex H H2, fun σ2 H2 h => ?_, ?_⟩
    · obtain ⟨x2, y2, e, h1, h2, h3, h4, h5⟩ := h
      exact ⟨y2.toNat, by omega, x2, y2, e, h1, h2, h3, rfl, h5⟩
    · refine sb_one (st_par 0 1 (ed_var 1 rfl (.int y)) (ed_bin (od_mod hp) (ed_var 0 rfl (.int x)) (ed_var 1 rfl (.int y))) fun v1 v2 H2 q2 e1 e2 => ?_)
      cases e1
      cases e2
      exact ⟨y, x % y, rfl, hy, Int.emod_nonneg _ (by omega), (gcdI_step hx hp).trans hg, Int.emod_lt_of_pos _ hp, (hE.trans q1).trans q2⟩
  · have hp : y = 0 := by have := of_decide_eq_false ht; omega
    subst hp
    refine sb_one (st_ret (ed_var 0 rfl (.int x)) fun v H2 q2 dv => ?_)
    rw [gcdI_zero hx] at hg
    subst hg
    exact q v H2 ((hE.trans q1).trans q2) dv
def FLowest (ds : List PyData) (d : PyData) : Prop := ∃ t b : Int, ds = [.int t, .int b] ∧ 0 < b ∧ Sm 4000 b ∧ d = fr (low t b)
theorem ok_lowest [B : Bl mg] (D : C8.Def K mg "lowest" (topS 13) f fd) (b : Binds K fd ["top", "bottom"] []) (c1 : C8.Cal P w K mg base 1 "shared_in" (spD K FGcd) []) : C8.Cal P w K mg base 2 "lowest" (spD K FLowest) [] := by
  refine def_ok (N := ["top", "bottom", "shared"]) D b (by decide +kernel) (fun ds d h => by obtain ⟨a, b, rfl, _⟩ := h; rfl) ?_
  rintro X rfl rfl rfl rfl rfl C H vs ds d En hv hF q qn
  obtain ⟨t, b, rfl, hb, hs, rfl⟩ := hF
  obtain ⟨v1, v2, rfl, d1, d2⟩ := dpa2 hv
  have hg := gcdI_pos (a := (t.natAbs : Int)) hb
  have hW : Sm 4000 (gcdI (t.natAbs : Int) b) := Sm.le (by omega) (gcdI_le hb) hs
  refine sb_cons (st_if (et_cmp od_lt (ed_var 1 rfl d2) ed_int) (fun h => absurd (of_decide_eq_true h) (by omega)) fun _ H1 q1 => sb_nil ?_)
  refine sb_cons (st_asg 2 (ed_call c1 (ea_cons (ed_abs (ed_var 0 rfl (q1.dp d1))) (ea_cons (ed_var 1 rfl (q1.dp d2)) ea_nil)) ⟨_, _, rfl, by rw [abs_eq]; omega, by omega, rfl⟩) fun v H2 q2 dv => ?_)
  rw [abs_eq] at dv
  exact sb_one (st_ret (ed_tup (ea_cons (ed_bin (od_div (hW.divW hg)) (ed_var 0 rfl ((q1.trans q2).dp d1)) (ed_var 2 rfl dv)) (ea_cons (ed_bin (od_div (hW.divW hg)) (ed_var 1 rfl ((q1.trans q2).dp d2)) (ed_var 2 rfl dv)) ea_nil))) fun v H3 q3 dv => q v H3 ((q1.trans q2).trans q3) dv)
def FWholeIn (ds : List PyData) (d : PyData) : Prop := ∃ q : Int × Int, ds = [fr q] ∧ 0 < q.2 ∧ Sm 4000 q.2 ∧ d = .int (q.1 / q.2)
theorem ok_whole_in [B : Bl mg] (D : C8.Def K mg "whole_in" (topS 14) f fd) (b : Binds K fd ["one"] []) : C8.Cal P w K mg base 1 "whole_in" (spD K FWholeIn) [] := by
  refine def_ok (N := ["one"]) D b (by decide +kernel) (fun ds d h => by obtain ⟨a, rfl, _⟩ := h; rfl) ?_
  rintro X rfl rfl rfl rfl rfl C H vs ds d En hv hF q qn
  obtain ⟨o, rfl, hb, hs, rfl⟩ := hF
  obtain ⟨v1, rfl, d1⟩ := dpa1 hv
  exact sb_one (st_ret (ed_bin (od_div (hs.divW hb)) (ed_ixT (ed_var 0 rfl d1) ed_int rfl) (ed_ixT (ed_var 0 rfl d1) ed_int rfl)) q)
/-! ### is_fraction, is_margin -/
def FIsFr (ds : List PyData) (d : PyData) : Prop := ∃ q : Int × Int, ds = [fr q] ∧ Good q ∧ d = .bool true
theorem ok_is_fraction [B : Bl mg] (G2 : GI mg "PAIR_fractions" 2) (D : C8.Def K mg "is_fraction" (topS 15) f fd) (b : Binds K fd ["value"] []) (c1 : C8.Cal P w K mg base 1 "shared_in" (spD K FGcd) []) (c2 : C8.Cal P w K mg base 2 "is_short" (spD K FShort) []) : C8.Cal P w K mg base 3 "is_fraction" (spD K FIsFr) [] := by
  refine def_ok (N := ["value"]) D b (by decide +kernel) (fun ds d h => by obtain ⟨a, rfl, _⟩ := h; rfl) ?_
  rintro X rfl rfl rfl rfl rfl C H vs ds d En hv hF q qn
  obtain ⟨o, rfl, ⟨h1, h2, h3, h4, h5⟩, rfl⟩ := hF
  obtain ⟨v1, rfl, d1⟩ := dpa1 hv
  have g : (0 : Int) < GREAT := by decide
  refine sb_cons (st_if (t := false) (et_w (ew_or (t := false) (et_not (t := true) (et_val (ed_isi "tuple" true (ed_var 0 rfl d1) B.tuple boot_tuple))) fun _ => ew_or (t := false) (et_cmp (t := false) od_neI (ed_len (ed_var 0 rfl d1)) (ed_glob G2)) fun _ =>
    ew_or (t := false) (et_not (t := true) (et_val (ed_call c2 (ea_cons (ed_ixT (ed_var 0 rfl d1) ed_int rfl) ea_nil) ⟨_, rfl, by omega, h3, rfl⟩))) fun _ => ew_or1 (et_not (t := true) (et_val (ed_call c2 (ea_cons (ed_ixT (ed_var 0 rfl d1) ed_int rfl) ea_nil) ⟨_, rfl, by omega, h4, rfl⟩))))) (fun h => nomatch h) fun _ H1 q1 => sb_nil ?_)
  refine sb_one (st_ret (ED.is (ed_and (ed_cmp od_gt (ed_ixT (ed_var 0 rfl (q1.dp d1)) ed_int rfl) ed_int) fun _ => ed_and1 (ed_cmp od_eqI (ed_call c1 (ea_cons (ed_abs (ed_ixT (ed_var 0 rfl (q1.dp d1)) ed_int rfl)) (ea_cons (ed_ixT (ed_var 0 rfl (q1.dp d1)) ed_int rfl) ea_nil)) ⟨_, _, rfl, by rw [abs_eq]; omega, by omega, rfl⟩) ed_int)) ?_) fun v H2 q2 dv => q v H2 (q1.trans q2) dv)
  rw [abs_eq, show ((o.1.natAbs : Nat) : Int) = o.1 by omega, h5, decide_eq_true h2]
  rfl
theorem ok_is_margin [B : Bl mg] (D : C8.Def K mg "is_margin" (topS 16) f fd) (b : Binds K fd ["value"] []) (c1 : C8.Cal P w K mg base 3 "is_fraction" (spD K FIsFr) []) : C8.Cal P w K mg base 4 "is_margin" (spD K FIsFr) [] := by
  refine def_ok (N := ["value"]) D b (by decide +kernel) (fun ds d h => by obtain ⟨a, rfl, _⟩ := h; rfl) ?_
  rintro X rfl rfl rfl rfl rfl C H vs ds d En hv hF q qn
  obtain ⟨o, rfl, hg, rfl⟩ := hF
  obtain ⟨v1, rfl, d1⟩ := dpa1 hv
  refine sb_one (st_ret (ED.is (ed_and (ed_call c1 (ea_cons (ed_var 0 rfl d1) ea_nil) ⟨o, rfl, hg, rfl⟩) fun _ => ed_and1 (ed_cmp od_ge (ed_ixT (ed_var 0 rfl d1) ed_int rfl) ed_int)) ?_) q)
  rw [decide_eq_true hg.1]
  rfl
end
end K9

namespace K9
open PySem PySem.Spec PyProof.Rows L2 KD
open Evl (Ex sq_of st_of fresh_back ex_l ex_t)
/-! ### readings, classes as data -/
def rds (r : List (Int × Int)) : PyData := .tuple (r.map fr)
def igs (l : List Int) : PyData := .tuple (l.map PyData.int)
abbrev Cls := List Int × List (List Int)
def clsD (c : Cls) : PyData := .tuple [igs c.1, .tuple (c.2.map igs)]
theorem noL_fr (q : Int × Int) : noL (fr q) = true := rfl
theorem noL_ints (l : List Int) : noL (igs l) = true := noLs_ints l
theorem noLs_igs (l : List Int) : noLs (l.map PyData.int) = true := noLs_ints l
theorem noL_rds (r : List (Int × Int)) : noL (rds r) = true := noLs_map fr noL_fr r
theorem noL_clsD (c : Cls) : noL (clsD c) = true := by
  show (noL (igs c.1) && (noL (.tuple (c.2.map igs)) && true)) = true
  rw [noL_ints]
  show (true && (noLs (c.2.map igs) && true)) = true
  rw [noLs_map igs noL_ints]
  rfl
theorem canAll_map {α : Type} (f : α → PyData) (h : ∀ a, PyData.canLay0 (f a) = true) : ∀ l : List α, PyData.canLayAll0 (l.map f) = true
  | [] => by simp [PyData.canLayAll0]
  | a :: l => by simp [PyData.canLayAll0, h a, canAll_map f h l]
theorem depthAll_map {α : Type} (f : α → PyData) (k : Nat) (h : ∀ a, PyData.depth (f a) ≤ k) : ∀ l : List α, PyData.depthAll (l.map f) ≤ k
  | [] => by simp [PyData.depthAll]
  | a :: l => by
    have h1 := h a
    have h2 := depthAll_map f k h l
    simp only [List.map_cons, PyData.depthAll]
    omega
theorem can_ints (l : List Int) : PyData.canLay0 (igs l) = true := by
  unfold igs
  rw [PyData.canLay0]
  exact canAll_map _ (fun a => by simp [PyData.canLay0]) l
theorem dep_ints (l : List Int) : PyData.depth (igs l) ≤ 2 := by
  unfold igs
  rw [PyData.depth]
  have := depthAll_map PyData.int 1 (fun a => by simp [PyData.depth]) l
  omega
theorem sh_of {d : PyData} (h1 : PyData.canLay0 d = true) (h2 : PyData.depth d ≤ 64) : SeqAt.shaped d = true := by
  unfold SeqAt.shaped
  rw [h1, decide_eq_true h2]
  rfl
theorem sh_ints (l : List Int) : SeqAt.shaped (igs l) = true := sh_of (can_ints l) (by have := dep_ints l; omega)
theorem sh_groups (l : List (List Int)) : SeqAt.shaped (.tuple (l.map igs)) = true := sh_of (by rw [PyData.canLay0]; exact canAll_map _ can_ints l) (by
  rw [PyData.depth]
  have := depthAll_map igs 2 dep_ints l
  omega)
theorem sh_cls (c : Cls) : SeqAt.shaped (clsD c) = true := sh_of (by
  unfold clsD
  simp only [PyData.canLay0, PyData.canLayAll0, can_ints, canAll_map _ can_ints c.2, Bool.and_self]) (by
  unfold clsD
  have h1 := dep_ints c.1
  have h2 := depthAll_map igs 2 dep_ints c.2
  simp only [PyData.depth, PyData.depthAll]
  omega)
theorem sh_fr (q : Int × Int) : SeqAt.shaped (fr q) = true := by
  refine sh_of ?_ ?_ <;> simp [fr, PyData.canLay0, PyData.canLayAll0, PyData.depth, PyData.depthAll]
theorem sh_none : SeqAt.shaped .none = true := by decide
theorem all_yes (n : Nat) : (List.replicate n true).all id = true := by
  induction n with
  | zero => rfl
  | succ n ih => rw [List.replicate_succ, List.all_cons, ih]; rfl
theorem map_true {α : Type} (l : List α) : l.map (fun _ => PyData.bool true) = (List.replicate l.length true).map PyData.bool := by
  induction l with
  | nil => rfl
  | cons a l ih => rw [List.map_cons, ih, List.length_cons, List.replicate_succ, List.map_cons]
theorem map_false {α : Type} (l : List α) : l.map (fun _ => PyData.bool false) = (List.replicate l.length false).map PyData.bool := by
  induction l with
  | nil => rfl
  | cons a l ih => rw [List.map_cons, ih, List.length_cons, List.replicate_succ, List.map_cons]
theorem any_no (n : Nat) : (List.replicate n false).any id = false := by
  induction n with
  | zero => rfl
  | succ n ih => rw [List.replicate_succ, List.any_cons, ih]; rfl
section
variable {P : Program} {w : World} {K : PySem.W.Frag} {mg : Str → Option Value} {base : Heap} {f : Addr} {fd : FuncData}
def FReadings (ds : List PyData) (d : PyData) : Prop := ∃ r : List (Int × Int), ds = [rds r, .int r.length] ∧ (∀ q ∈ r, Good q) ∧ r.length ≤ 1000 ∧ d = .bool true
theorem ok_are_readings [B : Bl mg] (D : C8.Def K mg "are_readings" (topS 21) f fd) (b : Binds K fd ["value", "clocks"] []) (c1 : C8.Cal P w K mg base 4 "is_margin" (spD K FIsFr) []) : C8.Cal P w K mg base 5 "are_readings" (spD K FReadings) [] := by
  refine def_ok (N := ["value", "clocks", "one"]) D b (by decide +kernel) (fun ds d h => by obtain ⟨a, rfl, _⟩ := h; rfl) ?_
  rintro X rfl rfl rfl rfl rfl C H vs ds d En hv hF q qn
  obtain ⟨r, rfl, hg, hl, rfl⟩ := hF
  obtain ⟨v1, v2, rfl, d1, d2⟩ := dpa2 hv
  refine sb_one (st_ret (ED.is (ed_and (ed_isi "tuple" true (ed_var 0 rfl d1) B.tuple boot_tuple) fun _ => ed_and (ed_cmp od_eqI (ed_len (ed_var 0 rfl d1)) (ed_var 1 rfl d2)) fun _ => ed_and1 (ed_all (EL.is
    (el_map1 (own := [("one", 2)]) 2 (fun _ => .bool true) (ei_tup (ed_var 0 rfl d1) (noL_rds r)) (fun d hd v H' q' dv s0 H0 A cl fp C' => ?_) (fun _ _ => rfl) (by rw [List.length_map]; omega)) (map_true _)).ed)) ?_) q)
  · obtain ⟨o, ho, rfl⟩ := List.mem_map.mp hd
    exact ed_call c1 (ea_cons (ed_var 2 rfl dv) ea_nil) ⟨o, rfl, hg o ho, rfl⟩
  · rw [all_yes, List.length_map, decide_eq_true rfl]
    rfl
def FLow (ds : List PyData) (d : PyData) : Prop := ∃ r : List (Int × Int), ds = [rds r, .int r.length] ∧ (∀ q ∈ r, Good q ∧ q.1 ≤ 4 * q.2) ∧ r.length ≤ 1000 ∧ d = .bool true
theorem fr_inj {o : Int × Int} {d1 d2 : PyData} (h : fr o = .tuple [d1, d2]) : d1 = .int o.1 ∧ d2 = .int o.2 := by
  unfold fr at h
  injection h with h
  injection h with h1 h
  injection h with h2 _
  exact ⟨h1.symm, h2.symm⟩
theorem ok_are_low [B : Bl mg] (G4 : GI mg "MOST_NUMBER" 4) (D : C8.Def K mg "are_low" (topS 22) f fd) (b : Binds K fd ["value", "clocks"] []) (c1 : C8.Cal P w K mg base 5 "are_readings" (spD K FReadings) []) : C8.Cal P w K mg base 6 "are_low" (spD K FLow) [] := by
  refine def_ok (N := ["value", "clocks", "top", "bottom"]) D b (by decide +kernel) (fun ds d h => by obtain ⟨a, rfl, _⟩ := h; rfl) ?_
  rintro X rfl rfl rfl rfl rfl C H vs ds d En hv hF q qn
  obtain ⟨r, rfl, hg, hl, rfl⟩ := hF
  obtain ⟨v1, v2, rfl, d1, d2⟩ := dpa2 hv
  refine sb_one (st_ret (ED.is (ed_and (ed_call c1 (ea_cons (ed_var 0 rfl d1) (ea_cons (ed_var 1 rfl d2) ea_nil)) ⟨r, rfl, fun q h => (hg q h).1, hl, rfl⟩) fun _ => ed_and1 (ed_all (EL.is
    (el_map2 (own := [("top", 2), ("bottom", 3)]) 2 3 (fun _ => .bool true) (ei_tup (ed_var 0 rfl d1) (noL_rds r)) (fun d hd => ?_) (fun d1 d2 hd v1 v2 H' q' e1 e2 s0 H0 A cl fp C' => ?_) (fun _ _ => rfl) (by rw [List.length_map]; omega)) (map_true _)).ed)) ?_) q)
  · obtain ⟨o, ho, rfl⟩ := List.mem_map.mp hd
    exact ⟨_, _, rfl⟩
  · obtain ⟨o, ho, he⟩ := List.mem_map.mp hd
    obtain ⟨rfl, rfl⟩ := fr_inj he
    exact ED.is (ed_cmp od_le (ed_var 2 rfl e1) (ed_bin (od_mulS (.inl ⟨by decide, by decide⟩)) (ed_glob G4) (ed_var 3 rfl e2))) (by rw [decide_eq_true (hg o ho).2])
  · rw [all_yes]
    rfl
theorem cut_tail (ds : List PyData) : cuD ds (some 1) none = ds.tail := by
  unfold cuD
  rw [show HT.sIx ds.length 0 (some 1) = min 1 ds.length from HT.sIx_nat ds.length 0 1, HT.sIx_none]
  cases ds with
  | nil => rfl
  | cons d r =>
    rw [show min 1 (d :: r).length = 1 by rw [List.length_cons]; omega]
    show r.take ((d :: r).length - 1) = r
    rw [List.length_cons, Nat.add_sub_cancel, List.take_length]
theorem zip_lt : ∀ (g : List Int), g.Pairwise (· < ·) → ∀ d1 d2, PyData.tuple [d1, d2] ∈ zipD (g.map PyData.int) (g.map PyData.int).tail → ∃ a b, d1 = .int a ∧ d2 = .int b ∧ a < b
  | [], _, _, _, h => by simp [zipD] at h
  | [a], _, _, _, h => by simp [zipD] at h
  | a :: b :: r, hp, d1, d2, h => by
    have h' : PyData.tuple [d1, d2] ∈ PyData.tuple [.int a, .int b] :: zipD ((b :: r).map PyData.int) ((b :: r).map PyData.int).tail := h
    rcases List.mem_cons.mp h' with e | h'
    · injection e with e
      injection e with e1 e
      injection e with e2 _
      exact ⟨a, b, e1, e2, (List.pairwise_cons.mp hp).1 b (List.mem_cons_self ..)⟩
    · exact zip_lt (b :: r) (List.pairwise_cons.mp hp).2 d1 d2 h'
theorem zip_pair {a b : List PyData} {d : PyData} (h : d ∈ zipD a b) : ∃ d1 d2, d = .tuple [d1, d2] := by
  obtain ⟨i, hi⟩ := List.getElem?_of_mem h
  obtain ⟨u, v, _, _, e⟩ := zipD_get _ _ _ _ hi
  exact ⟨u, v, e⟩
def Lot (n : Int) (g : List Int) : Prop := (∀ c ∈ g, 0 ≤ c ∧ c ≤ n - 1) ∧ g.Pairwise (· < ·) ∧ g.length ≤ 1000
def FLot (ds : List PyData) (d : PyData) : Prop := ∃ (n : Int) (g : List Int), ds = [.int n, igs g] ∧ Lot n g ∧ d = .bool true
theorem ok_is_lot [B : Bl mg] (D : C8.Def K mg "is_lot" (topS 23) f fd) (b : Binds K fd ["clocks", "value"] []) (c1 : C8.Cal P w K mg base 2 "is_from" (spD K FFrom) []) : C8.Cal P w K mg base 3 "is_lot" (spD K FLot) [] := by
  refine def_ok (N := ["clocks", "value", "clock", "one", "other"]) D b (by decide +kernel) (fun ds d h => by obtain ⟨a, g, rfl, _⟩ := h; rfl) ?_
  rintro X rfl rfl rfl rfl rfl C H vs ds d En hv hF q qn
  obtain ⟨n, g, rfl, ⟨hg, hp, hl⟩, rfl⟩ := hF
  obtain ⟨v1, v2, rfl, d1, d2⟩ := dpa2 hv
  refine sb_cons (st_if (t := false) (et_w (ew_or (t := false) (et_not (t := true) (et_val (ed_isi "tuple" true (ed_var 1 rfl d2) B.tuple boot_tuple))) fun _ => ew_or1 (et_not (t := true) (et_val (ED.is (ed_all (EL.is
    (el_map1 (own := [("clock", 2)]) 2 (fun _ => .bool true) (ei_tup (ed_var 1 rfl d2) (noLs_igs g)) (fun d hd v H' q' dv s0 H0 A cl fp C' => ?_) (fun _ _ => rfl) (by rw [List.length_map]; omega)) (map_true _)).ed) (by rw [all_yes])))))) (fun h => nomatch h) fun _ H1 q1 => sb_nil ?_)
  · obtain ⟨c, hc, rfl⟩ := List.mem_map.mp hd
    refine ed_call c1 (ea_cons (ed_var 2 rfl dv) (ea_cons ed_int (ea_cons (ed_bin od_sub (ed_var 0 rfl (q'.dp d1)) ed_int) ea_nil))) ⟨c, 0, n - 1, rfl, ?_⟩
    rw [decide_eq_true (hg c hc).1, decide_eq_true (hg c hc).2]
    rfl
  · refine sb_one (st_ret (ED.is (ed_all (EL.is (el_map2 (own := [("one", 3), ("other", 4)]) 3 4 (fun _ => .bool true) (ei_zipT (ed_var 1 rfl (q1.dp d2)) (ed_slT (ed_var 1 rfl (q1.dp d2)) (eo_some ed_int) eo_none) (noLs_igs g) ?_) (fun d hd => zip_pair hd) (fun d1 d2 hd v1 v2 H' q' e1 e2 s0 H0 A cl fp C' => ?_) (fun _ _ => rfl) ?_) (map_true _)).ed) (by rw [all_yes])) fun v H2 q2 dv => q v H2 (q1.trans q2) dv)
    · rw [cut_tail]
      exact noLs_iff.mpr fun d hd => noLs_iff.mp (noLs_igs g) d (List.mem_of_mem_tail hd)
    · rw [cut_tail] at hd
      obtain ⟨a, b, rfl, rfl, hab⟩ := zip_lt g hp d1 d2 hd
      exact ED.is (ed_cmp od_lt (ed_var 3 rfl e1) (ed_var 4 rfl e2)) (by rw [decide_eq_true hab])
    · rw [zipD_len, List.length_map]
      omega
/-- groups of n clocks -/
structure Ord (n : Nat) (gs : List (List Int)) : Prop where
  ne : gs ≠ []
  lot : ∀ g ∈ gs, Lot n g
  tl : ∀ g ∈ gs.tail, g ≠ []
  all : (srt gs.flatten).map PyData.int = rgD 0 n
  len : n ≤ 3
  few : gs.length ≤ 1000
theorem srt_len (l : List Int) : (srt l).length = l.length := (srt_perm l).length_eq
theorem Ord.flen {n : Nat} {gs : List (List Int)} (o : Ord n gs) : gs.flatten.length = n := by
  have h := congrArg List.length o.all
  rw [List.length_map, rgD_len, srt_len] at h
  omega
theorem groups_map (gs : List (List Int)) : gs.map igs = (gs.map (List.map PyData.int)).map PyData.tuple := by
  rw [List.map_map]
  rfl
def FOrder (ds : List PyData) (d : PyData) : Prop := ∃ (n : Nat) (gs : List (List Int)), ds = [.int n, .tuple (gs.map igs)] ∧ Ord n gs ∧ d = .bool true
theorem ok_is_order [B : Bl mg] (D : C8.Def K mg "is_order" (topS 24) f fd) (b : Binds K fd ["clocks", "value"] []) (c1 : C8.Cal P w K mg base 3 "is_lot" (spD K FLot) []) : C8.Cal P w K mg base 4 "is_order" (spD K FOrder) [] := by
  refine def_ok (N := ["clocks", "value", "group", "clock"]) D b (by decide +kernel) (fun ds d h => by obtain ⟨a, g, rfl, _⟩ := h; rfl) ?_
  rintro X rfl rfl rfl rfl rfl C H vs ds d En hv hF q qn
  obtain ⟨n, gs, rfl, o, rfl⟩ := hF
  obtain ⟨v1, v2, rfl, d1, d2⟩ := dpa2 hv
  have nls : noLs (gs.map igs) = true := noLs_map igs noL_ints gs
  have few := o.few
  have heq : PyData.eqv (.tuple (gs.map igs)) (.tuple []) = false := by
    have h := o.ne
    cases gs with
    | nil => exact absurd rfl h
    | cons g r => rfl
  refine sb_cons (st_if (t := false) (et_w (ew_or (t := false) (et_not (t := true) (et_val (ed_isi "tuple" true (ed_var 1 rfl d2) B.tuple boot_tuple))) fun _ => ew_or (t := false) (ET.is (et_cmp (od_eqD (sh_groups gs) (by decide)) (ed_var 1 rfl d2) (ed_tup ea_nil)) heq) fun _ => ew_or1 (et_not (t := true) (et_val (ED.is (ed_all (EL.is
    (el_map1 (own := [("group", 2)]) 2 (fun _ => .bool true) (ei_tup (ed_var 1 rfl d2) nls) (fun d hd v H' q' dv s0 H0 A cl fp C' => ?_) (fun _ _ => rfl) (by rw [List.length_map]; omega)) (map_true _)).ed) (by rw [all_yes])))))) (fun h => nomatch h) fun _ H1 q1 => sb_nil ?_)
  · obtain ⟨g, hg, rfl⟩ := List.mem_map.mp hd
    exact ed_call c1 (ea_cons (ed_var 0 rfl (q'.dp d1)) (ea_cons (ed_var 2 rfl dv) ea_nil)) ⟨n, g, rfl, o.lot g hg, rfl⟩
  refine sb_cons (st_if (t := false) (et_val (ED.is (ed_any (EL.is (el_map1 (own := [("group", 2)]) 2 (fun _ => .bool false) (ei_tup (ed_slT (ed_var 1 rfl (q1.dp d2)) (eo_some ed_int) eo_none) ?_) (fun d hd v H' q' dv s0 H0 A cl fp C' => ?_) (fun _ _ => rfl) ?_) (map_false _)).ed) (by rw [any_no]))) (fun h => nomatch h) fun _ H2 q2 => sb_nil ?_)
  · rw [cut_tail]
    exact noLs_iff.mpr fun d hd => noLs_iff.mp nls d (List.mem_of_mem_tail hd)
  · rw [cut_tail, ← List.map_tail] at hd
    obtain ⟨g, hg, rfl⟩ := List.mem_map.mp hd
    refine ED.is (ed_cmp (od_eqD (sh_ints g) (by decide)) (ed_var 2 rfl dv) (ed_tup ea_nil)) ?_
    have h := o.tl g hg
    cases g with
    | nil => exact absurd rfl h
    | cons g r => rfl
  · rw [cut_tail, List.length_tail, List.length_map]
    omega
  · have ln := o.len
    have lf := o.flen
    refine sb_one (st_ret (ED.is (ed_cmp (od_eqD ?_ ?_) (el_sorted (ED.is (el_flat (own := [("group", 2), ("clock", 3)]) 2 3 (gs.map (List.map PyData.int)) (ei_tup (ED.is (ed_var 1 rfl ((q1.trans q2).dp d2)) (by rw [groups_map])) (by rw [← groups_map]; exact nls)) (fun g hg => ?_) ?_).ed (by rw [← List.map_flatten])) (by omega)).ed (el_listR1 (ed_var 0 rfl ((q1.trans q2).dp d1)) (RgOk.of_le (by decide) (by omega) (by decide) (by omega))).ed) ?_) fun v H3 q3 dv => q v H3 ((q1.trans q2).trans q3) dv)
    · exact sh_of (by rw [PyData.canLay0]; exact canAll_map _ (fun a => by simp [PyData.canLay0]) _) (by
        rw [PyData.depth]
        have := depthAll_map PyData.int 1 (fun a => by simp [PyData.depth]) (srt gs.flatten)
        omega)
    · rw [← o.all]
      exact sh_of (by rw [PyData.canLay0]; exact canAll_map _ (fun a => by simp [PyData.canLay0]) _) (by
        rw [PyData.depth]
        have := depthAll_map PyData.int 1 (fun a => by simp [PyData.depth]) (srt gs.flatten)
        omega)
    · obtain ⟨l, _, rfl⟩ := List.mem_map.mp hg
      exact noLs_igs l
    · rw [← List.map_flatten, List.length_map]
      omega
    · rw [o.all, SeqAt.eqv_refl]
      rw [← o.all, PyData.canLay0]
      exact canAll_map _ (fun a => by simp [PyData.canLay0]) _
/-- a class that is one -/
structure Wf (c : Cls) : Prop where
  len1 : 1 ≤ c.1.length
  ord : Ord c.1.length c.2
  wh : ∀ w ∈ c.1, 0 ≤ w ∧ w ≤ 4
  four : ∀ (i : Nat) w, c.1[i]? = some w → w < 4 ∨ ((i : Nat) : Int) ∈ c.2.headD []
theorem en_mem {ds : List PyData} {d1 d2 : PyData} (h : PyData.tuple [d1, d2] ∈ enD 0 ds) : ∃ i : Nat, d1 = .int i ∧ ds[i]? = some d2 := by
  obtain ⟨i, hi⟩ := List.getElem?_of_mem h
  rw [enD_get] at hi
  cases e : ds[i]? with
  | none => rw [e] at hi; cases hi
  | some d =>
    rw [e] at hi
    have hi := Option.some.inj hi
    injection hi with hi
    injection hi with h1 hi
    injection hi with h2 _
    rw [Nat.zero_add] at h1
    exact ⟨i, h1.symm, by rw [e, h2]⟩
theorem en_pair {ds : List PyData} {d : PyData} (h : d ∈ enD 0 ds) : ∃ d1 d2, d = .tuple [d1, d2] := by
  obtain ⟨i, hi⟩ := List.getElem?_of_mem h
  rw [enD_get] at hi
  cases e : ds[i]? with
  | none => rw [e] at hi; cases hi
  | some d =>
    rw [e] at hi
    exact ⟨_, _, (Option.some.inj hi).symm⟩
def FClassOf (ds : List PyData) (d : PyData) : Prop := ∃ c : Cls, ds = [.int c.1.length, clsD c] ∧ Wf c ∧ d = .bool true
theorem ok_is_class_of [B : Bl mg] (G2 : GI mg "PAIR_classes" 2) (G4 : GI mg "MOST_NUMBER" 4) (D : C8.Def K mg "is_class_of" (topS 25) f fd) (b : Binds K fd ["clocks", "value"] []) (c1 : C8.Cal P w K mg base 2 "is_from" (spD K FFrom) []) (c2 : C8.Cal P w K mg base 4 "is_order" (spD K FOrder) []) : C8.Cal P w K mg base 5 "is_class_of" (spD K FClassOf) [] := by
  refine def_ok (N := ["clocks", "value", "wholes", "order", "whole", "clock"]) D b (by decide +kernel) (fun ds d h => by obtain ⟨c, rfl, _⟩ := h; rfl) ?_
  rintro X rfl rfl rfl rfl rfl C H vs ds d En hv hF q qn
  obtain ⟨c, rfl, W, rfl⟩ := hF
  obtain ⟨v1, v2, rfl, d1, d2⟩ := dpa2 hv
  obtain ⟨ws, gs⟩ := c
  have ln := W.ord.len
  have h0 : (gs.map igs)[0]? = some (igs (gs.headD [])) := by
    have h := W.ord.ne
    cases gs with
    | nil => exact absurd rfl h
    | cons g r => rfl
  refine sb_cons (st_if (t := false) (et_w (ew_or (t := false) (et_not (t := true) (et_val (ed_isi "tuple" true (ed_var 1 rfl d2) B.tuple boot_tuple))) fun _ => ew_or (t := false) (et_cmp (t := false) od_neI (ed_len (ed_var 1 rfl d2)) (ed_glob G2)) fun _ =>
    ew_or1 (et_not (t := true) (et_val (ed_isi "tuple" true (ed_ixT (ed_var 1 rfl d2) ed_int rfl) B.tuple boot_tuple))))) (fun h => nomatch h) fun _ H1 q1 => sb_nil ?_)
  refine sb_cons (st_unp2 2 3 (ed_var 1 rfl (q1.dp d2)) fun v3 v4 H2 q2 d3 d4 => ?_)
  refine sb_cons (st_if (t := false) (et_w (ew_or (t := false) (ET.is (et_cmp od_neI (ed_len (ed_var 2 rfl d3)) (ed_var 0 rfl ((q1.trans q2).dp d1))) (by rw [List.length_map, decide_eq_true rfl]; rfl)) fun _ => ew_or1 (et_not (t := true) (et_val (ED.is (ed_all (EL.is
    (el_map1 (own := [("whole", 4)]) 4 (fun _ => .bool true) (ei_tup (ed_var 2 rfl d3) (noLs_igs ws)) (fun d hd v H' q' dv s0 H0 A cl fp C' => ?_) (fun _ _ => rfl) (by rw [List.length_map]; omega)) (map_true _)).ed) (by rw [all_yes])))))) (fun h => nomatch h) fun _ H3 q3 => sb_nil ?_)
  · obtain ⟨o, ho, rfl⟩ := List.mem_map.mp hd
    refine ed_call c1 (ea_cons (ed_var 4 rfl dv) (ea_cons ed_int (ea_cons (ed_glob G4) ea_nil))) ⟨o, 0, 4, rfl, ?_⟩
    rw [decide_eq_true (W.wh o ho).1, decide_eq_true (W.wh o ho).2]
    rfl
  have Q := (q1.trans q2).trans q3
  refine sb_cons (st_if (t := false) (et_not (t := true) (et_val (ed_call c2 (ea_cons (ed_var 0 rfl (Q.dp d1)) (ea_cons (ed_var 3 rfl (q3.dp d4)) ea_nil)) ⟨_, gs, rfl, W.ord, rfl⟩))) (fun h => nomatch h) fun _ H4 q4 => sb_nil ?_)
  refine sb_one (st_ret (ED.is (ed_all (EL.is (el_map2 (own := [("clock", 5), ("whole", 4)]) 5 4 (fun _ => .bool true) (ei_enumT (ed_var 2 rfl ((q3.trans q4).dp d3)) (noLs_igs ws)) (fun d hd => en_pair hd) (fun d1 d2 hd v1 v2 H' q' e1 e2 s0 H0 A cl fp C' => ?_) (fun _ _ => rfl) ?_) (map_true _)).ed) (by rw [all_yes])) fun v H5 q5 dv => q v H5 ((Q.trans q4).trans q5) dv)
  · obtain ⟨i, rfl, hi⟩ := en_mem hd
    rw [List.getElem?_map] at hi
    cases e : ws[i]? with
    | none => rw [e] at hi; cases hi
    | some o =>
      rw [e] at hi
      have hi := Option.some.inj hi
      subst hi
      refine ED.is (ed_or (ed_cmp od_lt (ed_var 4 rfl e2) (ed_glob G4)) fun _ => ed_and1 (ed_cmp od_inT (ed_var 5 rfl e1) (ed_ixT (ed_var 3 rfl (((q3.trans q4).trans q').dp d4)) ed_int (atI_nat h0)))) ?_
      rcases W.four i o e with h | h
      · rw [decide_eq_true h]
        rfl
      · rw [decide_eq_true h, Bool.or_true]
  · rw [enD_len, List.length_map]
    omega
def FClass (ds : List PyData) (d : PyData) : Prop := ∃ c : Cls, ds = [clsD c] ∧ Wf c ∧ d = .bool true
theorem ok_is_class_any [B : Bl mg] (G2 : GI mg "PAIR_classes" 2) (G3 : GI mg "MOST_CLOCKS" 3) (D : C8.Def K mg "is_class_any" (topS 26) f fd) (b : Binds K fd ["value"] []) (c1 : C8.Cal P w K mg base 5 "is_class_of" (spD K FClassOf) []) : C8.Cal P w K mg base 6 "is_class_any" (spD K FClass) [] := by
  refine def_ok (N := ["value"]) D b (by decide +kernel) (fun ds d h => by obtain ⟨c, rfl, _⟩ := h; rfl) ?_
  rintro X rfl rfl rfl rfl rfl C H vs ds d En hv hF q qn
  obtain ⟨c, rfl, W, rfl⟩ := hF
  obtain ⟨v1, rfl, d1⟩ := dpa1 hv
  have l1 := W.len1
  have l3 := W.ord.len
  refine sb_cons (st_if (t := false) (et_w (ew_or (t := false) (et_not (t := true) (et_val (ed_isi "tuple" true (ed_var 0 rfl d1) B.tuple boot_tuple))) fun _ => ew_or (t := false) (et_cmp (t := false) od_neI (ed_len (ed_var 0 rfl d1)) (ed_glob G2)) fun _ =>
    ew_or1 (et_not (t := true) (et_val (ed_isi "tuple" true (ed_ixT (ed_var 0 rfl d1) ed_int rfl) B.tuple boot_tuple))))) (fun h => nomatch h) fun _ H1 q1 => sb_nil ?_)
  refine sb_one (st_ret (ED.is (ed_and (ed_chain od_le od_le ed_int (ed_len (ed_ixT (ed_var 0 rfl (q1.dp d1)) ed_int rfl)) (ed_glob G3)) fun _ => ed_and1 (ed_call c1 (ea_cons (ed_len (ed_ixT (ed_var 0 rfl (q1.dp d1)) ed_int rfl)) (ea_cons (ed_var 0 rfl (q1.dp d1)) ea_nil)) ⟨c, by rw [List.length_map], W, rfl⟩)) ?_) fun v H2 q2 dv => q v H2 (q1.trans q2) dv)
  rw [List.length_map, decide_eq_true (show (1 : Int) ≤ (c.1.length : Nat) by omega), decide_eq_true (show ((c.1.length : Nat) : Int) ≤ 3 by omega)]
  rfl
end
end K9

namespace K9
open PySem PySem.Spec PyProof.Rows L2 KD
open Evl (Ex sq_of st_of fresh_back ex_l ex_t)
/-! ### the class of readings, as the program reckons it -/
def idxF : Nat → List Int → Int → List Int
  | _, [], _ => []
  | n, x :: r, k => if x = k then (n : Int) :: idxF (n + 1) r k else idxF (n + 1) r k
def ixs (l : List Int) (k : Int) : List Int := idxF 0 l k
theorem idxF_app : ∀ (n : Nat) (l : List Int) (x k : Int), idxF n (l ++ [x]) k = if x = k then idxF n l k ++ [((n + l.length : Nat) : Int)] else idxF n l k
  | n, [], x, k => by
    show (if x = k then [(n : Int)] else []) = if x = k then [] ++ [((n + 0 : Nat) : Int)] else []
    simp
  | n, y :: r, x, k => by
    have ih := idxF_app (n + 1) r x k
    rw [show n + 1 + r.length = n + (y :: r).length by rw [List.length_cons]; omega] at ih
    show (if y = k then (n : Int) :: idxF (n + 1) (r ++ [x]) k else idxF (n + 1) (r ++ [x]) k) = if x = k then (if y = k then (n : Int) :: idxF (n + 1) r k else idxF (n + 1) r k) ++ [((n + (y :: r).length : Nat) : Int)] else (if y = k then (n : Int) :: idxF (n + 1) r k else idxF (n + 1) r k)
    rw [ih]
    by_cases h1 : x = k <;> by_cases h2 : y = k <;> simp [h1, h2]
theorem ixs_app (l : List Int) (x k : Int) : ixs (l ++ [x]) k = if x = k then ixs l k ++ [(l.length : Int)] else ixs l k := by
  have h := idxF_app 0 l x k
  rw [Nat.zero_add] at h
  exact h
theorem idxF_none : ∀ (n : Nat) (l : List Int) (k : Int), k ∉ l → idxF n l k = []
  | _, [], _, _ => rfl
  | n, y :: r, k, h => by
    show (if y = k then (n : Int) :: idxF (n + 1) r k else idxF (n + 1) r k) = []
    rw [if_neg (fun z => h (by rw [z]; exact List.mem_cons_self ..))]
    exact idxF_none (n + 1) r k fun z => h (List.mem_cons_of_mem _ z)
theorem idxF_len : ∀ (n : Nat) (l : List Int) (k : Int), (idxF n l k).length ≤ l.length
  | _, [], _ => Nat.le_refl _
  | n, y :: r, k => by
    have ih := idxF_len (n + 1) r k
    show (if y = k then (n : Int) :: idxF (n + 1) r k else idxF (n + 1) r k).length ≤ r.length + 1
    split
    · rw [List.length_cons]; omega
    · omega
def keyL (ks : List Int) : List Int := ks.foldl (fun acc k => if k ∈ acc then acc else acc ++ [k]) [0]
theorem keyL_app (l : List Int) (k : Int) : keyL (l ++ [k]) = if k ∈ keyL l then keyL l else keyL l ++ [k] := by
  unfold keyL
  rw [List.foldl_append]
  rfl
theorem keyL_mem (l : List Int) : ∀ k, k ∈ keyL l ↔ k = 0 ∨ k ∈ l := by
  have h : ∀ (l acc : List Int) (k : Int), k ∈ l.foldl (fun acc k => if k ∈ acc then acc else acc ++ [k]) acc ↔ k ∈ acc ∨ k ∈ l := by
    intro l
    induction l with
    | nil => intro acc k; simp
    | cons x r ih =>
      intro acc k
      rw [List.foldl_cons, ih]
      split
      · rename_i hx
        rw [List.mem_cons]
        constructor
        · rintro (h | h)
          · exact .inl h
          · exact .inr (.inr h)
        · rintro (h | h | h)
          · exact .inl h
          · subst h; exact .inl hx
          · exact .inr h
      · rw [List.mem_append, List.mem_singleton, List.mem_cons]
        constructor
        · rintro ((h | h) | h)
          · exact .inl h
          · exact .inr (.inl h)
          · exact .inr (.inr h)
        · rintro (h | h | h)
          · exact .inl (.inl h)
          · exact .inl (.inr h)
          · exact .inr h
  intro k
  have := h l [0] k
  unfold keyL
  rw [this]
  simp
theorem keyL_len (l : List Int) : (keyL l).length ≤ l.length + 1 := by
  have h : ∀ (l acc : List Int), (l.foldl (fun acc k => if k ∈ acc then acc else acc ++ [k]) acc).length ≤ acc.length + l.length := by
    intro l
    induction l with
    | nil => intro acc; exact Nat.le_refl _
    | cons x r ih =>
      intro acc
      rw [List.foldl_cons]
      refine Nat.le_trans (ih _) ?_
      split
      · rw [List.length_cons]; omega
      · simp only [List.length_append, List.length_cons, List.length_nil]; omega
  have := h l [0]
  unfold keyL
  rw [List.length_singleton] at this
  omega
def prodB (r : List (Int × Int)) : Int := r.foldl (fun b q => b * q.2) 1
def restI (B : Int) (q : Int × Int) : Int := (q.1 - q.1 / q.2 * q.2) * (B / q.2)
def keysOf (r : List (Int × Int)) : List Int := r.map (restI (prodB r))
def clsOf (r : List (Int × Int)) : Cls := (r.map fun q => q.1 / q.2, (srt (keyL (keysOf r))).map (ixs (keysOf r)))
/-- readings that may be reckoned with -/
def Ok1 (q : Int × Int) : Prop := 0 ≤ q.1 ∧ 0 < q.2 ∧ q.1 < GREAT ∧ q.2 < GREAT
theorem sm_prod : ∀ (r : List (Int × Int)) (n : Nat) (b : Int), (∀ q ∈ r, Ok1 q) → Sm n b → Sm (n + 200 * r.length) (r.foldl (fun b q => b * q.2) b)
  | [], n, b, _, h => h
  | q :: r, n, b, hr, h => by
    have h2 := hr q (List.mem_cons_self ..)
    have h1 := sm_prod r (n + 200) (b * q.2) (fun x hx => hr x (List.mem_cons_of_mem _ hx)) (h.mul (sm_great (by have := h2.2.1; omega) h2.2.2.2))
    rw [show n + 200 + 200 * r.length = n + 200 * (q :: r).length by rw [List.length_cons]; omega] at h1
    exact h1
theorem sm_prodB {r : List (Int × Int)} (h : ∀ q ∈ r, Ok1 q) (hl : r.length ≤ 3) : Sm 601 (prodB r) :=
  (sm_prod r 1 1 h (by unfold Sm; decide)).mono (by omega)
/-! ### the table -/
def TabOk (K : PySem.W.Frag) (H : Hp) (kvs : List (Key × V)) (l : List Int) : Prop :=
  kvs.map (·.1) = (keyL l).map Sum.inl ∧ ∀ k ∈ keyL l, ∃ v, valV kvs (Sum.inl k : Key) = some v ∧ Dp K H v (igs (ixs l k))
theorem TabOk.exT {K : PySem.W.Frag} {H H' : Hp} {kvs : List (Key × V)} {l : List Int} (h : TabOk K H kvs l) (e : ExT H H') : TabOk K H' kvs l := ⟨h.1, fun k hk => by
  obtain ⟨v, h1, h2⟩ := h.2 k hk
  exact ⟨v, h1, dp_exT e _ _ (noL_ints _) h2⟩⟩
theorem val_none {κ : Type} [DecidableEq κ] : ∀ {kvs : List (κ × V)} {k : κ}, k ∉ kvs.map (·.1) → valV kvs k = none
  | [], _, _ => rfl
  | p :: r, k, h => by
    rw [valV_neg (fun z => h (by rw [← z]; exact List.mem_cons_self ..))]
    exact val_none fun z => h (List.mem_cons_of_mem _ z)
theorem keys_put {κ : Type} [DecidableEq κ] (kvs : List (κ × V)) (k : κ) (v : V) : (putK kvs k v).map (·.1) = if k ∈ kvs.map (·.1) then kvs.map (·.1) else kvs.map (·.1) ++ [k] := by
  by_cases h : k ∈ kvs.map (·.1)
  · rw [if_pos h]
    unfold putK
    rw [if_pos]
    · rw [List.map_map]
      refine List.map_congr_left fun p _ => ?_
      show (if p.1 = k then (p.1, v) else p).1 = p.1
      split <;> rfl
    · obtain ⟨p, hp, e⟩ := List.mem_map.mp h
      exact List.any_eq_true.mpr ⟨p, hp, decide_eq_true e⟩
  · rw [if_neg h, putK_new v (val_none h), List.map_append]
    rfl
theorem TabOk.put {K : PySem.W.Frag} {H : Hp} {kvs : List (Key × V)} {l : List Int} {k : Int} {v : V} (h : TabOk K H kvs l) (hv : Dp K H v (igs (ixs l k ++ [(l.length : Int)]))) : TabOk K H (putK kvs (Sum.inl k) v) (l ++ [k]) := by
  have hm : ∀ j : Int, (Sum.inl j : Key) ∈ kvs.map (·.1) ↔ j ∈ keyL l := fun j => by
    rw [h.1, List.mem_map]
    constructor
    · rintro ⟨a, ha, e⟩
      cases e
      exact ha
    · intro ha
      exact ⟨j, ha, rfl⟩
  refine ⟨?_, fun j hj => ?_⟩
  · rw [keys_put, keyL_app]
    by_cases hk : k ∈ keyL l
    · rw [if_pos hk, if_pos ((hm k).mpr hk), h.1]
    · rw [if_neg hk, if_neg (fun z => hk ((hm k).mp z)), h.1, List.map_append]
      rfl
  · rw [valV_put, ixs_app]
    by_cases e : j = k
    · subst e
      rw [if_pos rfl, if_pos rfl]
      exact ⟨v, rfl, hv⟩
    · rw [if_neg (fun z => e (Sum.inl.inj z)), if_neg (fun z => e z.symm)]
      refine h.2 j ?_
      rw [keyL_app] at hj
      split at hj
      · exact hj
      · rcases List.mem_append.mp hj with hj | hj
        · exact hj
        · exact absurd (List.mem_singleton.mp hj) e
/-- a dict is written -/
theorem exT_dict {H : Hp} {p : Addr} {kvs : List (Key × V)} {o : HO} (h : H p = some (.dK kvs)) : ExT H (upd H p o) := fun a ys r => by
  have ne : a ≠ p := fun z => by
    subst z
    rcases r with r | ⟨u, r⟩
    · rw [h] at r; cases r
    · rw [h] at r; cases r
  rcases r with r | ⟨u, r⟩
  · exact .inl (by rw [upd_ne ne]; exact r)
  · exact .inr ⟨u, by rw [upd_ne ne]; exact r⟩
section
variable {X : Cx} {N : List Str} {sc : Scope} {k : Nat} {σ : L2.St} {H H' : Hp} {e a b c f : Expr} {d d1 d2 : PyData} {x y : Str} {pos p apos cpos py : Pos}
theorem rn_var [C : Cn X N sc k] (i : Nat) {v : V} {Q : VK} (hv : σ[i]? = some (some v)) (q : Q v H) (hN : N[i]? = some x := by rfl) (hs : visB sc x = true := by decide +kernel) : run X (.Name x pos) σ H Q :=
  of_pe (pe_var (C.at_ hN) (C.vis x (visB_of hs).1) (visB_of hs).2.1 (visB_of hs).2.2) ⟨v, hv, q⟩
theorem ed_dget2 [C : Cn X N sc k] {t : Addr} {kvs : List (Key × V)} {key : Int} {res : PyData} (hd : H t = some (.dK kvs)) (i : Nat) (hv : σ[i]? = some (some (.ref t))) (he : ED X e σ H (.int key)) (hf : ED X f σ H d) (hr : ∀ H1 z, Ex H H1 → Dp X.K H1 z d → Dp X.K H1 ((valV kvs (Sum.inl key : Key)).getD z) res)
    (hN : N[i]? = some x := by rfl) (hs : visB sc x = true := by decide +kernel) (m : M2 X (.Name x p) "get" apos e f cpos := by exact ⟨rfl, rfl, rfl, rfl⟩) : ED X (.Call (.Attribute (.Name x p) "get" apos) [e, f] [] cpos) σ H res := fun H1 q Q kq =>
  of_pe (pe_dget2 (by have := C.hu; omega) (pe_run _) (pe_run e) (pe_run f) m) (rn_var i hv ⟨t, rfl, .inl ⟨kvs, .inl (q t _ hd)⟩, he H1 q _ fun y H2 q2 dy => hf H2 (q.trans q2) _ fun z H3 q3 dz => by
    cases dy
    exact ⟨_, DGet.k (k := Sum.inl key) (((q.trans q2).trans q3) t _ hd), kq _ H3 (q2.trans q3) (hr H3 z ((q.trans q2).trans q3) dz)⟩⟩ hN hs)
theorem ed_dget [C : Cn X N sc k] {t : Addr} {kvs : List (Key × V)} {key : Int} {v : V} (hd : H t = some (.dK kvs)) (i : Nat) (hv : σ[i]? = some (some (.ref t))) (he : ED X e σ H (.int key)) (hr : valV kvs (Sum.inl key : Key) = some v) (hdv : Dp X.K H v d)
    (hN : N[i]? = some x := by rfl) (hs : visB sc x = true := by decide +kernel) (hsl : NoSl e := by intro _ _; rfl) : ED X (.Subscript (.Name x p) e pos) σ H d := fun H1 q Q kq =>
  of_pe (pe_dget (by have := C.hu; omega) (pe_run _) (pe_run e) hsl) (rn_var i hv (he H1 q _ fun y H2 q2 dy => by
    cases dy
    refine ⟨t, v, rfl, ?_, kq v H2 q2 ((q.trans q2).dp hdv)⟩
    have h := DGet.k (k := Sum.inl key) ((q.trans q2) t _ hd)
    rw [hr] at h
    exact h) hN hs)
theorem el_sortedD [C : Cn X N sc k] [B : Bl X.mg] {t : Addr} {kvs : List (Key × V)} {ks : List Int} (hd : H t = some (.dK kvs)) (hk : kvs.map (·.1) = ks.map Sum.inl) (hl : ks.length < 64) (i : Nat) (hv : σ[i]? = some (some (.ref t))) (hN : N[i]? = some x := by rfl) (hs : visB sc x = true := by decide +kernel) (hs2 : glB sc "sorted" = true := by decide +kernel) :
    EL X (.Call (.Name "sorted" p) [.Name x py] [] pos) σ H ((srt ks).map PyData.int) := fun H1 q Q kk =>
  of_pe (pe_callB (call_sortedDI C.calm) (C.gl _ (glB_of hs2).1) B.sorted boot_sorted (pa_cons (pe_run _) pa_nil) (glB_of hs2).2.2 (glB_of hs2).2.1 rfl rfl) (rn_var i hv (show _ from ⟨t, kvs, ks, rfl, .inl (q t _ hd), hk, hl, fun ys l hp hso hfl => by
    rw [sorted_one (hp.trans (srt_perm ks).symm) hso (srt_sorted ks)]
    exact kk l _ _ hfl (Evl.Ex.new hfl) upd_same (dpa_ints _)⟩) hN hs)
end
section
variable {P : Program} {w : World} {K : PySem.W.Frag} {mg : Str → Option Value} {base : Heap} {f : Addr} {fd : FuncData}
theorem mod_le {q : Int × Int} (h : Ok1 q) : 0 ≤ q.1 - q.1 / q.2 * q.2 ∧ q.1 - q.1 / q.2 * q.2 < q.2 := by
  have e : q.1 - q.1 / q.2 * q.2 = q.1 % q.2 := by
    rw [Int.emod_def, Int.mul_comm]
  rw [e]
  exact ⟨Int.emod_nonneg _ (by have := h.2.1; omega), Int.emod_lt_of_pos _ h.2.1⟩
theorem prodB_pos : ∀ (r : List (Int × Int)) (b : Int), (∀ q ∈ r, Ok1 q) → 0 < b → 0 < r.foldl (fun b q => b * q.2) b
  | [], b, _, h => h
  | q :: r, b, hr, h => prodB_pos r (b * q.2) (fun x hx => hr x (List.mem_cons_of_mem _ hx)) (Int.mul_pos h (hr q (List.mem_cons_self ..)).2.1)
def FClassIn (ds : List PyData) (d : PyData) : Prop := ∃ r : List (Int × Int), ds = [rds r] ∧ (∀ q ∈ r, Ok1 q) ∧ r.length ≤ 3 ∧ d = clsD (clsOf r)
theorem ok_class_in [B : Bl mg] (D : C8.Def K mg "class_in" (topS 27) f fd) (b : Binds K fd ["readings"] []) (c1 : C8.Cal P w K mg base 1 "whole_in" (spD K FWholeIn) []) : C8.Cal P w K mg base 2 "class_in" (spD K FClassIn) [] := by
  refine def_ok (N := ["readings", "bottom", "reading", "wholes", "found", "clock", "top", "under", "rest"]) D b (by decide +kernel) (fun ds d h => by obtain ⟨c, rfl, _⟩ := h; rfl) ?_
  rintro X rfl rfl rfl rfl rfl C H vs ds d En hv hF q qn
  obtain ⟨r, rfl, hr, hl, rfl⟩ := hF
  obtain ⟨v0, rfl, d0⟩ := dpa1 hv
  have hat : ∀ {i : Nat} {d : PyData}, (r.map fr)[i]? = some d → ∃ o, r[i]? = some o ∧ d = fr o ∧ Ok1 o := fun {i d} h => by
    rw [List.getElem?_map] at h
    cases e : r[i]? with
    | none => rw [e] at h; cases h
    | some o =>
      rw [e] at h
      exact ⟨o, rfl, (Option.some.inj h).symm, hr o (List.mem_of_getElem? e)⟩
  -- bottom
  refine sb_cons (st_asg 1 ed_int fun v1 H1 q1 d1 => ?_)
  cases d1
  refine sb_cons (st_for (ei_tup (ed_var 0 rfl (q1.dp d0)) (noL_rds r)) fun H2 q2 => ⟨fun i σ' H' => ∃ y2, σ' = [some v0, some (.int (prodB (r.take i))), y2, none, none, none, none, none, none] ∧ Ex H2 H', ⟨none, rfl, Ex.refl _⟩, fun i σ' H' h => by obtain ⟨_, _, h⟩ := h; exact h.t, fun i d v σ' H' H'' hd hP q3 dv => ?_, fun σ' H3 hP => ?_⟩)
  · obtain ⟨y2, rfl, hE⟩ := hP
    obtain ⟨o, ho, rfl, hok⟩ := hat hd
    have hi : i < r.length := (List.getElem?_eq_some_iff.mp ho).1
    have et : prodB (r.take (i + 1)) = prodB (r.take i) * o.2 := by
      unfold prodB
      rw [List.take_add_one, ho, List.foldl_append]
      rfl
    have hs : Sm 601 (prodB (r.take i)) := sm_prodB (fun q h => hr q (List.mem_of_mem_take h)) (by rw [List.length_take]; omega)
    refine tg_name 2 (sb_one (st_mul 1 rfl (ed_ixT (ed_var 2 rfl dv) ed_int rfl) (hs.mulW (sm_great (by have := hok.2.1; omega) hok.2.2.2)) fun H4 q4 => ?_))
    exact ⟨some v, by rw [et]; rfl, (hE.trans q3).trans q4⟩
  obtain ⟨y2, rfl, hE3⟩ := hP
  rw [List.length_map, List.take_length]
  have Q3 := (q1.trans q2).trans hE3
  have hB : Sm 601 (prodB r) := sm_prodB hr hl
  have hBp : 0 < prodB r := prodB_pos r 1 hr (by decide)
  -- wholes, found
  refine sb_cons (st_parC ((ed_tupL (EL.is (el_map1 (own := [("reading", 2)]) 2 (fun d => match d with | .tuple [.int a, .int b] => .int (a / b) | _ => .none) (ei_tup (ed_var 0 rfl (Q3.dp d0)) (noL_rds r)) (fun d hd v H' q' dv s0 H0 A cl fp C' => ?_) (fun d hd => ?_) (by rw [List.length_map]; omega)) (show _ = (clsOf r).1.map PyData.int from ?_)).ed).go fun v3 H4 q4 d3 =>
    of_pe (pe_disp (pps_cons (pe_run _) (pe_run _) pps_nil) (by rfl) (by rfl) (fun z => by cases z) (by decide)) fun t ht => of_pe pe_int (of_pe (pe_tup pa_nil) ⟨Nat.zero_le _, fun e he => ?_⟩)) (swap_cell2 (C.cel _ (by decide +kernel))))
  · obtain ⟨o, ho, rfl⟩ := List.mem_map.mp hd
    exact ed_call c1 (ea_cons (ed_var 2 rfl dv) ea_nil) ⟨o, rfl, (hr o ho).2.1, (sm_great (by have := (hr o ho).2.1; omega) (hr o ho).2.2.2).mono (by decide), rfl⟩
  · obtain ⟨o, ho, rfl⟩ := List.mem_map.mp hd
    rfl
  · rw [List.map_map]
    show _ = ((r.map fun q => q.1 / q.2).map PyData.int)
    rw [List.map_map]
    rfl
  have hte : upd H4 t (.dK []) t = some (.dK []) := upd_same
  have nte : t ≠ e := ne_of_none hte he
  have het : e ≠ t := fun z => nte z.symm
  refine ⟨by rw [upd_ne nte]; exact hte, [(Sum.inl 0, .ref e)], rfl, Nat.le_of_ble_eq_true rfl, fun rr hrr => ?_⟩
  generalize hH5 : upd (upd (upd H4 t (.dK [])) e (.tup [])) t (.dK (mergeK [] [(Sum.inl 0, .ref e)])) = H5 at hrr ⊢
  have nt4 : H4 t = none := ht
  have ht5 : H5 t = some (.dK [(Sum.inl 0, .ref e)]) := by
    rw [← hH5, upd_same]
    rfl
  have he5 : H5 e = some (.tup []) := by rw [← hH5, upd_ne het, upd_same]
  have ne4 : H4 e = none := by
    rw [upd_ne het] at he
    exact he
  have q5 : Ex H4 H5 := fun a o h => by
    have n1 : a ≠ t := ne_of_none h nt4
    have n2 : a ≠ e := ne_of_none h ne4
    rw [← hH5, upd_ne n1, upd_ne n2, upd_ne n1]
    exact h
  have nrt : t ≠ rr := ne_of_none ht5 hrr
  refine tg_twoV 3 4 upd_same ?_
  -- the table
  generalize hH6 : upd H5 rr (.tup [v3, .ref t]) = H6
  have q6 : Ex H5 H6 := by
    rw [← hH6]
    exact Evl.Ex.new hrr
  have ht6 := q6 t _ ht5
  have Q6 := ((Q3.trans q4).trans q5).trans q6
  have nt : H t = none := Evl.fresh_back (Q3.trans q4) nt4
  have d36 := (q5.trans q6).dp d3
  have tab0 : TabOk X.K H6 [(Sum.inl 0, .ref e)] [] := ⟨rfl, fun k hk => by
    have hk0 : k = 0 := by
      have h := (keyL_mem [] k).mp hk
      simpa using h
    subst hk0
    exact ⟨.ref e, rfl, .tup (st_of (q6 e _ he5)) .nil⟩⟩
  have lk : (keysOf r).length = r.length := List.length_map ..
  refine sb_cons (st_for (ei_enumT (ed_var 0 rfl (Q6.dp d0)) (noL_rds r)) fun H7 q7 => ⟨fun i σ' H' => ∃ y5 y6 y7 y8 kvs, σ' = [some v0, some (.int (prodB r)), y2, some v3, some (.ref t), y5, y6, y7, y8] ∧ ExT H7 H' ∧ Ex H H' ∧ H' t = some (.dK kvs) ∧ TabOk X.K H' kvs ((keysOf r).take i), ⟨none, none, none, none, [(Sum.inl 0, .ref e)], rfl, ExT.refl _, Q6.trans q7, q7 t _ ht6, by
    rw [List.take_zero]
    exact tab0.exT q7.t⟩, fun i σ' H' h => by obtain ⟨_, _, _, _, _, _, h, _⟩ := h; exact h, fun i d v σ' H' H'' hd hP q8 dv => ?_, fun σ' H8 hP => ?_⟩)
  · obtain ⟨y5, y6, y7, y8, kvs, rfl, hT, hE, htk, tab⟩ := hP
    rw [enD_get, Nat.zero_add] at hd
    cases ed : (r.map fr)[i]? with
    | none => rw [ed] at hd; cases hd
    | some d' =>
      rw [ed] at hd
      have hd := (Option.some.inj hd).symm
      subst hd
      obtain ⟨o, ho, rfl, hok⟩ := hat ed
      have hi : i < r.length := (List.getElem?_eq_some_iff.mp ho).1
      refine tg_three 5 6 7 dv fun v5 v6 v7 d5 d6 d7 => ?_
      have dw := dp_exT ((q7.t.trans hT).trans q8.t) _ _ (noL_ints (clsOf r).1) d36
      have hw : ((clsOf r).1.map PyData.int)[i]? = some (.int (o.1 / o.2)) := by
        rw [List.getElem?_map]
        show Option.map _ ((r.map fun q => q.1 / q.2)[i]?) = _
        rw [List.getElem?_map, ho]
        rfl
      have s2 : Sm 200 o.2 := sm_great (by have := hok.2.1; omega) hok.2.2.2
      have s1 : Sm 200 (o.1 / o.2) := Sm.le (Int.ediv_nonneg hok.1 (by have := hok.2.1; omega)) (Int.ediv_le_self _ hok.1) (sm_great hok.1 hok.2.2.1)
      have ml := mod_le hok
      have s3 : Sm 200 (o.1 - o.1 / o.2 * o.2) := Sm.le ml.1 (by omega) s2
      have s4 : Sm 601 (prodB r / o.2) := Sm.le (Int.ediv_nonneg (by omega) (by have := hok.2.1; omega)) (Int.ediv_le_self _ (by omega)) hB
      refine sb_cons (st_asg 8 (ed_bin (od_mul (s3.mulW s4)) (ed_bin od_sub (ed_var 6 rfl d6) (ed_bin (od_mul (s1.mulW s2)) (ed_ixT (ed_var 3 rfl dw) (ed_var 5 rfl d5) (atI_nat hw)) (ed_var 7 rfl d7))) (ed_bin (od_div (s2.divW hok.2.1)) (ed_var 1 rfl (.int _)) (ed_var 7 rfl d7))) fun v8 H9 q9 d8 => ?_)
      have hkey : (keysOf r)[i]? = some (restI (prodB r) o) := by
        unfold keysOf
        rw [List.getElem?_map, ho]
        rfl
      have htk9 := (q8.trans q9) t _ htk
      have tab9 := tab.exT (q8.trans q9).t
      have lt : ((keysOf r).take i).length = i := by rw [List.length_take]; omega
      refine sb_one (of_ps (ps_dput (by have := C.hu; omega) (pe_run _) (pe_run _) (pe_run _) rfl) (ED.go (d := igs (ixs ((keysOf r).take i) (restI (prodB r) o) ++ [(((keysOf r).take i).length : Int)])) (ED.is (ed_tup (ea_starT (es1 := (ixs ((keysOf r).take i) (restI (prodB r) o)).map PyData.int) (ed_dget2 htk9 4 rfl (ed_var 8 rfl d8) (ed_tup ea_nil) fun H10 z q10 dz => ?_) (ea_cons (ed_var 5 rfl (q9.dp d5)) ea_nil)) ?_) ?_) fun v10 H10 q10 d10 => rn_var 4 rfl (rn_var 8 rfl ?_)))
      · show Dp X.K H10 _ (igs (ixs ((keysOf r).take i) (restI (prodB r) o)))
        by_cases hm : restI (prodB r) o ∈ keyL ((keysOf r).take i)
        · obtain ⟨v, e1, e2⟩ := tab9.2 _ hm
          rw [show restI (prodB r) o = (o.1 - o.1 / o.2 * o.2) * (prodB r / o.2) from rfl] at e1
          rw [e1]
          exact q10.dp e2
        · have hn : valV kvs (Sum.inl (restI (prodB r) o) : Key) = none := val_none fun z => by
            rw [tab9.1] at z
            obtain ⟨a, ha, e⟩ := List.mem_map.mp z
            cases e
            exact hm ha
          rw [show restI (prodB r) o = (o.1 - o.1 / o.2 * o.2) * (prodB r / o.2) from rfl] at hn
          rw [hn, show ixs ((keysOf r).take i) (restI (prodB r) o) = [] from idxF_none 0 _ _ fun z => hm ((keyL_mem _ _).mpr (.inr z))]
          exact dz
      · rw [List.length_append, List.length_map]
        have : (ixs ((keysOf r).take i) (restI (prodB r) o)).length ≤ 3 := by
          have h := idxF_len 0 ((keysOf r).take i) (restI (prodB r) o)
          rw [lt] at h
          exact Nat.le_trans h (by omega)
        simp only [List.length_cons, List.length_nil]
        omega
      · rw [lt]
        show PyData.tuple _ = PyData.tuple _
        rw [List.map_append]
        rfl
      · cases d8
        have htk10 := q10 t _ htk9
        refine ⟨t, _, rfl, DPut.k (k := Sum.inl (restI (prodB r) o)) htk10 ?_, ?_⟩
        · have h1 := congrArg List.length tab9.1
          rw [List.length_map, List.length_map] at h1
          have h2 := keyL_len ((keysOf r).take i)
          rw [lt] at h2
          exact Nat.lt_of_le_of_lt (show kvs.length ≤ 1000 by omega) (by decide)
        · refine ⟨some v5, some v6, some v7, _, _, rfl, ((hT.trans q8.t).trans (q9.trans q10).t).trans (exT_dict htk10), ?_, upd_same, ?_⟩
          · exact Evl.Ex.mut ((hE.trans q8).trans (q9.trans q10)) nt
          · rw [List.take_add_one, hkey]
            exact ((tab9.exT q10.t).put d10).exT (exT_dict htk10)
  · obtain ⟨y5, y6, y7, y8, kvs, rfl, hT, hE, htk, tab⟩ := hP
    rw [enD_len, List.length_map, ← lk, List.take_length] at tab
    have dw := dp_exT (q7.t.trans hT) _ _ (noL_ints (clsOf r).1) d36
    have kl := keyL_len (keysOf r)
    refine sb_one (st_ret (ED.is (ed_tup (ea_cons (ed_var 3 rfl dw) (ea_cons (ed_tupL (EL.is (el_map1 (own := [("rest", 8)]) 8 (fun d => match d with | .int a => igs (ixs (keysOf r) a) | _ => .none) (ei_list (el_sortedD htk tab.1 (by omega) 4 rfl).ed) (fun d hd v H' q' dv s0 H0 A cl fp C' => ?_) (fun d hd => ?_) ?_) (show _ = (clsOf r).2.map igs from ?_)).ed) ea_nil))) rfl) fun v H9 q9 dv => q v H9 (hE.trans q9) dv)
    · obtain ⟨a, ha, rfl⟩ := List.mem_map.mp hd
      obtain ⟨u, e1, e2⟩ := tab.2 a ((srt_perm _).mem_iff.mp ha)
      exact ed_dget (q' t _ htk) 4 rfl (ed_var 8 rfl dv) e1 (q'.dp e2)
    · obtain ⟨a, ha, rfl⟩ := List.mem_map.mp hd
      exact noL_ints _
    · rw [List.length_map, srt_len]
      omega
    · rw [List.map_map]
      show _ = ((srt (keyL (keysOf r))).map (ixs (keysOf r))).map igs
      rw [List.map_map]
      rfl
end
end K9

namespace K9
open PySem PySem.Spec PyProof.Rows L2 KD
open Evl (Ex sq_of st_of fresh_back ex_l ex_t)
/-! ### raised, next_in, put_back_in -/
def raiseF : Nat → List Int → List Int → List Int
  | _, [], _ => []
  | n, x :: r, g => (x + if (n : Int) ∈ g then 1 else 0) :: raiseF (n + 1) r g
def lowerF : Nat → List Int → List Int → List Int
  | _, [], _ => []
  | n, x :: r, g => (if (n : Int) ∈ g then 0 else x) :: lowerF (n + 1) r g
/-- an enumerated comprehension over ints -/
def enI (f : Nat → Int → PyData) : Nat → List Int → List PyData
  | _, [] => []
  | n, x :: r => f n x :: enI f (n + 1) r
theorem enI_map (f : Nat → Int → PyData) (w : PyData → PyData) (h : ∀ (n : Nat) (x : Int), w (.tuple [.int n, .int x]) = f n x) : ∀ (n : Nat) (l : List Int), (enD n (l.map PyData.int)).map w = enI f n l
  | _, [] => rfl
  | n, x :: r => by
    show w (.tuple [.int n, .int x]) :: (enD (n + 1) (r.map PyData.int)).map w = _
    rw [h, enI_map f w h (n + 1) r]
    rfl
theorem enI_raise (g : List Int) : ∀ (n : Nat) (l : List Int), enI (fun n x => .int (x + if (n : Int) ∈ g then 1 else 0)) n l = (raiseF n l g).map PyData.int
  | _, [] => rfl
  | n, x :: r => by
    show _ :: _ = _ :: _
    rw [enI_raise g (n + 1) r]
theorem enI_lower (g : List Int) : ∀ (n : Nat) (l : List Int), enI (fun n x => .int (if (n : Int) ∈ g then 0 else x)) n l = (lowerF n l g).map PyData.int
  | _, [] => rfl
  | n, x :: r => by
    show _ :: _ = _ :: _
    rw [enI_lower g (n + 1) r]
def nextOf (c : Cls) : Option Cls :=
  if c.2.headD [] = [] then some (raiseF 0 c.1 (c.2.getLastD []), c.2.getLastD [] :: c.2.tail.dropLast)
  else if (c.2.headD []).any (fun i => c.1.getD i.toNat 0 == 4) = true then none else some (c.1, [] :: c.2)
def optD : Option Cls → PyData
  | none => .none
  | some c => clsD c
def putOf (c : Cls) (lot : List Int) : Cls :=
  (lowerF 0 c.1 lot, srt (((c.2.map (List.filter fun i => !decide (i ∈ lot))).headD []) ++ lot) :: ((c.2.map (List.filter fun i => !decide (i ∈ lot))).tail.filter fun g => !decide (g = [])))
theorem int_pair {ds : List Int} {d1 d2 : PyData} (h : PyData.tuple [d1, d2] ∈ enD 0 (ds.map PyData.int)) : ∃ (i : Nat) (x : Int), d1 = .int i ∧ d2 = .int x ∧ ds[i]? = some x := by
  obtain ⟨i, rfl, hi⟩ := en_mem h
  rw [List.getElem?_map] at hi
  cases e : ds[i]? with
  | none => rw [e] at hi; cases hi
  | some x =>
    rw [e] at hi
    exact ⟨i, x, rfl, (Option.some.inj hi).symm, e⟩
section
variable {P : Program} {w : World} {K : PySem.W.Frag} {mg : Str → Option Value} {base : Heap} {f : Addr} {fd : FuncData}
def FRaised (ds : List PyData) (d : PyData) : Prop := ∃ l g : List Int, ds = [igs l, igs g] ∧ l.length ≤ 1000 ∧ d = igs (raiseF 0 l g)
theorem ok_raised [B : Bl mg] (D : C8.Def K mg "raised" (topS 29) f fd) (b : Binds K fd ["wholes", "clocks"] []) : C8.Cal P w K mg base 1 "raised" (spD K FRaised) [] := by
  refine def_ok (N := ["wholes", "clocks", "clock", "whole"]) D b (by decide +kernel) (fun ds d h => by obtain ⟨c, g, rfl, _⟩ := h; rfl) ?_
  rintro X rfl rfl rfl rfl rfl C H vs ds d En hv hF q qn
  obtain ⟨l, g, rfl, hl, rfl⟩ := hF
  obtain ⟨v0, v1, rfl, d0, d1⟩ := dpa2 hv
  refine sb_one (st_ret (ed_tupL (EL.is (el_map2 (own := [("clock", 2), ("whole", 3)]) 2 3 (fun d => match d with | .tuple [.int n, .int x] => .int (x + if n ∈ g then 1 else 0) | _ => .none) (ei_enumT (ed_var 0 rfl d0) (noLs_igs l)) (fun d hd => en_pair hd) (fun d1' d2' hd v1 v2 H' q' e1 e2 s0 H0 A cl fp C' => ?_) (fun d hd => ?_) ?_)
    ((enI_map (fun n x => .int (x + if (n : Int) ∈ g then 1 else 0)) _ (fun _ _ => rfl) 0 l).trans (enI_raise g 0 l))).ed) q)
  · obtain ⟨i, x, rfl, rfl, _⟩ := int_pair hd
    refine ED.is (ed_bin od_add (ed_var 3 rfl e2) (ed_toB (ed_cmp od_inT (ed_var 2 rfl e1) (ed_var 1 rfl (q'.dp d1))))) ?_
    show PyData.int _ = PyData.int _
    by_cases h : (i : Int) ∈ g <;> simp [h]
  · obtain ⟨d1, d2, rfl⟩ := en_pair hd
    obtain ⟨i, x, rfl, rfl, _⟩ := int_pair hd
    rfl
  · rw [enD_len, List.length_map]
    omega
def FNextIn (ds : List PyData) (d : PyData) : Prop := ∃ c : Cls, ds = [clsD c] ∧ Wf c ∧ d = optD (nextOf c)
theorem cut_mid (ds : List PyData) : cuD ds (some 1) (some (-1)) = ds.tail.dropLast := by
  unfold cuD
  rw [show HT.sIx ds.length 0 (some 1) = min 1 ds.length from HT.sIx_nat ds.length 0 1]
  have e : HT.sIx ds.length ds.length (some (-1)) = ds.length - 1 := by
    show HT.sIx ds.length ds.length (some (-1 : Int)) = _
    unfold HT.sIx
    simp only
    rw [if_pos (by decide)]
    omega
  rw [e]
  cases ds with
  | nil => rfl
  | cons d r =>
    rw [show min 1 (d :: r).length = 1 by rw [List.length_cons]; omega]
    show r.take ((d :: r).length - 1 - 1) = r.dropLast
    rw [List.length_cons, Nat.add_sub_cancel, List.dropLast_eq_take]
theorem last_at {ds : List PyData} {d : PyData} (h : ds.getLast? = some d) : atI ds (-1) = some d := by
  cases ds with
  | nil => cases h
  | cons a r =>
    have e : (a :: r) = (a :: r).dropLast ++ [d] := by
      rw [List.getLast?_eq_some_getLast (List.cons_ne_nil _ _)] at h
      rw [← Option.some.inj h, List.dropLast_concat_getLast]
    rw [e]
    exact atI_last _ _
theorem Wf.at {c : Cls} (W : Wf c) {g : List Int} (hg : g ∈ c.2) {i : Int} (hi : i ∈ g) : ∃ x, c.1[i.toNat]? = some x ∧ 0 ≤ i := by
  have h := (W.ord.lot g hg).1 i hi
  exact ⟨_, List.getElem?_eq_getElem (by omega), h.1⟩
theorem ok_next_in [B : Bl mg] (G4 : GI mg "MOST_NUMBER" 4) (D : C8.Def K mg "next_in" (topS 30) f fd) (b : Binds K fd ["cls"] []) (c1 : C8.Cal P w K mg base 1 "raised" (spD K FRaised) []) : C8.Cal P w K mg base 2 "next_in" (spD K FNextIn) [] := by
  refine def_ok (N := ["cls", "wholes", "order", "clock"]) D b (by decide +kernel) (fun ds d h => by obtain ⟨c, rfl, _⟩ := h; rfl) ?_
  rintro X rfl rfl rfl rfl rfl C H vs ds d En hv hF q qn
  obtain ⟨c, rfl, W, rfl⟩ := hF
  obtain ⟨v0, rfl, d0⟩ := dpa1 hv
  obtain ⟨ws, gs⟩ := c
  have ln : ws.length ≤ 3 := W.ord.len
  have few := W.ord.few
  obtain ⟨g0, gr, rfl⟩ : ∃ g r, gs = g :: r := by
    have h := W.ord.ne
    cases gs with
    | nil => exact absurd rfl h
    | cons g r => exact ⟨g, r, rfl⟩
  have nls : noLs ((g0 :: gr).map igs) = true := noLs_map igs noL_ints _
  refine sb_cons (st_unp2 1 2 (ed_var 0 rfl d0) fun v1 v2 H1 q1 d1 d2 => ?_)
  have h0 : ((g0 :: gr).map igs)[0]? = some (igs g0) := rfl
  have hlast : ((g0 :: gr).map igs).getLast? = some (igs ((g0 :: gr).getLastD [])) := by
    rw [List.getLast?_map, List.getLast?_eq_some_getLast (List.cons_ne_nil _ _)]
    rfl
  refine sb_cons (st_if (t := decide (g0 = [])) (ET.is (et_cmp (od_eqD (sh_ints g0) (by decide)) (ed_ixT (ed_var 2 rfl d2) ed_int (atI_nat h0)) (ed_tup ea_nil)) ?_) (fun h H2 q2 => ?_) fun h H2 q2 => sb_nil ?_)
  · cases g0 with
    | nil => rfl
    | cons x r => rfl
  · have hg := of_decide_eq_true h
    refine sb_one (st_ret (ED.is (ed_tup (ea_cons (ed_call c1 (ea_cons (ed_var 1 rfl (q2.dp d1)) (ea_cons (ed_ixT (ed_var 2 rfl (q2.dp d2)) (ed_neg ed_int) (last_at hlast)) ea_nil)) ⟨ws, _, rfl, by omega, rfl⟩) (ea_cons (ed_tup (ea_cons (ed_ixT (ed_var 2 rfl (q2.dp d2)) (ed_neg ed_int) (last_at hlast)) (ea_starT (ed_slT (ed_var 2 rfl (q2.dp d2)) (eo_some ed_int) (eo_some (ed_neg ed_int))) ea_nil)) ?_) ea_nil))) ?_) fun v H3 q3 dv => q v H3 ((q1.trans q2).trans q3) dv)
    · rw [show cuD ((g0 :: gr).map igs) (some 1) (some (-1)) = _ from cut_mid _]
      simp only [List.length_cons, List.length_append, List.length_dropLast, List.length_tail, List.length_map, List.length_nil] at few ⊢
      omega
    · rw [show cuD ((g0 :: gr).map igs) (some 1) (some (-1)) = _ from cut_mid _]
      unfold nextOf
      rw [if_pos (show (g0 :: gr).headD [] = [] from hg), List.append_nil, ← List.map_tail, ← List.map_dropLast]
      rfl
  · have hg := of_decide_eq_false h
    refine sb_cons (st_if (et_val (ed_any (EL.is (el_map1 (own := [("clock", 3)]) 3 (fun d => match d with | .int i => .bool (ws.getD i.toNat 0 == 4) | _ => .none) (ei_tup (ed_ixT (ed_var 2 rfl (q2.dp d2)) ed_int (atI_nat h0)) (noLs_igs g0)) (fun d hd v H' q' dv s0 H0 A cl fp C' => ?_) (fun d hd => ?_) ?_) (show _ = (g0.map fun i => ws.getD i.toNat 0 == 4).map PyData.bool from ?_)).ed)) (fun ht H3 q3 => ?_) fun hf H3 q3 => sb_nil ?_)
    · obtain ⟨i, hi, rfl⟩ := List.mem_map.mp hd
      obtain ⟨x, hx, hp⟩ := W.at (List.mem_cons_self ..) hi
      have hx' : (ws.map PyData.int)[i.toNat]? = some (.int x) := by rw [List.getElem?_map, hx]; rfl
      have ha := atI_nat hx'
      rw [show ((i.toNat : Nat) : Int) = i by omega] at ha
      refine ED.is (ed_cmp od_eqI (ed_ixT (ed_var 1 rfl ((q2.trans q').dp d1)) (ed_var 3 rfl dv) ha) (ed_glob G4)) ?_
      show PyData.bool (decide (x = 4)) = PyData.bool (ws.getD i.toNat 0 == 4)
      rw [List.getD_eq_getElem?_getD, show ws[i.toNat]? = some x from hx]
      rfl
    · obtain ⟨i, hi, rfl⟩ := List.mem_map.mp hd
      rfl
    · rw [List.length_map]
      have := (W.ord.lot g0 (List.mem_cons_self ..)).2.2
      omega
    · rw [List.map_map, List.map_map]
      rfl
    · have hn : nextOf (ws, g0 :: gr) = none := by
        unfold nextOf
        rw [if_neg (show ¬ (g0 :: gr).headD [] = [] from hg), if_pos]
        rw [List.any_map] at ht
        exact ht
      rw [hn] at q
      exact sb_one (st_ret ed_non fun v H4 q4 dv => q v H4 (((q1.trans q2).trans q3).trans q4) dv)
    · have hn : nextOf (ws, g0 :: gr) = some (ws, [] :: g0 :: gr) := by
        unfold nextOf
        rw [if_neg (show ¬ (g0 :: gr).headD [] = [] from hg), if_neg]
        rw [List.any_map] at hf
        exact fun z => by
          rw [show (g0.any (id ∘ fun i => ws.getD i.toNat 0 == 4)) = true from z] at hf
          cases hf
      rw [hn] at q
      refine sb_one (st_ret (ED.is (ed_tup (ea_cons (ed_var 1 rfl ((q2.trans q3).dp d1)) (ea_cons (ed_tup (ea_cons (ed_tup ea_nil) (ea_starT (ed_var 2 rfl ((q2.trans q3).dp d2)) ea_nil)) ?_) ea_nil))) ?_) fun v H4 q4 dv => q v H4 (((q1.trans q2).trans q3).trans q4) dv)
      · simp only [List.length_cons, List.length_append, List.length_map, List.length_nil] at few ⊢
        omega
      · rw [List.append_nil]
        rfl
end
end K9

namespace K9
open PySem PySem.Spec PyProof.Rows L2 KD
open Evl (Ex sq_of st_of fresh_back ex_l ex_t)
/-! ### put_back_in, point_of -/
theorem pw_len : ∀ (g : List Int) (a n : Int), (∀ c ∈ g, a ≤ c ∧ c ≤ n - 1) → g.Pairwise (· < ·) → g.length ≤ (n - a).toNat
  | [], _, _, _, _ => Nat.zero_le _
  | x :: r, a, n, h, hp => by
    have hp' := List.pairwise_cons.mp hp
    have hx := h x (List.mem_cons_self ..)
    have ih := pw_len r (a + 1) n (fun c hc => ⟨by have := hp'.1 c hc; omega, (h c (List.mem_cons_of_mem _ hc)).2⟩) hp'.2
    rw [List.length_cons]
    omega
theorem Lot.len {n : Nat} {g : List Int} (h : Lot n g) : g.length ≤ n := by
  have := pw_len g 0 n h.1 h.2.1
  omega
def fltI (lot g : List Int) : List Int := g.filter fun i => !decide (i ∈ lot)
theorem filt_ints (lot g : List Int) : ((g.map PyData.int).filter (fun d => match d with | .int i => !decide (i ∈ lot) | _ => false)).map (fun d => d) = (fltI lot g).map PyData.int := by
  rw [List.map_id', List.filter_map]
  rfl
theorem fltI_len (lot g : List Int) : (fltI lot g).length ≤ g.length := List.length_filter_le _ _
section
variable {X : Cx} {N : List Str} {sc : Scope} {k : Nat} {σ : L2.St} {H H' : Hp} {e a b c : Expr} {d d1 d2 : PyData} {ds ds2 : List PyData} {x y : Str} {pos p : Pos}
theorem dpa_rep {K : PySem.W.Frag} {H : Hp} {v : V} {d : PyData} (h : Dp K H v d) : ∀ n : Nat, DpAll K H (List.replicate n [v]).flatten (List.replicate n d)
  | 0 => .nil
  | n + 1 => .cons h (dpa_rep h n)
theorem dpa_set {K : PySem.W.Frag} {H : Hp} {v : V} {d : PyData} (h : Dp K H v d) : ∀ {vs : List V} {ds : List PyData} (i : Nat), DpAll K H vs ds → DpAll K H (vs.set i v) (ds.set i d)
  | _, _, _, .nil => .nil
  | _, _, 0, .cons _ t => .cons h t
  | _, _, i + 1, .cons r t => .cons r (dpa_set h i t)
theorem el_rep {n : Nat} (ha : EL X a σ H [d]) (hb : ED X b σ H (.int n)) (hn : n ≤ 1000) : EL X (.BinOp a .Mult b pos) σ H (List.replicate n d) := fun H1 q Q kq =>
  of_pe (pe_op op_rep (pe_run a) (pe_run b)) (ha H1 q _ fun l xs H2 hl q2 hx hda => hb H2 (q.trans q2) _ fun y H3 q3 dy => by
    cases dy
    obtain ⟨v, rfl, dv⟩ := dpa1 hda
    refine ⟨l, n, [v], rfl, rfl, q3 l _ hx, by omega, by omega, ?_, fun p hp => kq p _ _ (fresh_back (q2.trans q3) hp) ((q2.trans q3).trans (Evl.Ex.new hp)) upd_same (dpa_rep ((Evl.Ex.new hp).dp (q3.dp dv)) n)⟩
    exact Evl.sz_of (by simp only [List.length_singleton]; omega))
/-- a list that is one cell of the heap -/
def PL (X : Cx) (e : Expr) (σ : L2.St) (H : Hp) (ds : List PyData) : Prop := ∀ H1, Ex H H1 → ∀ Q : VK, (∀ p xs H2, Ex H1 H2 → H2 p = some (.lst xs) → DpAll X.K H2 xs ds → Q (.ref p) H2) → run X e σ H1 Q
theorem EL.pl (h : EL X e σ H ds) : PL X e σ H ds := fun H1 q Q k => h H1 q Q fun p xs H2 _ q2 hx hd => k p xs H2 q2 hx hd
theorem pl_var [C : Cn X N sc k] (i : Nat) {r : Addr} {xs : List V} (hv : σ[i]? = some (some (.ref r))) (hx : H r = some (.lst xs)) (hd : DpAll X.K H xs ds) (hN : N[i]? = some x := by rfl) (hs : visB sc x = true := by decide +kernel) : PL X (.Name x pos) σ H ds := fun H1 q Q k =>
  rn_var i hv (k r xs H1 (Ex.refl H1) (q r _ hx) (q.dpa hd)) hN hs
theorem el_cat (ha : PL X a σ H ds) (hb : PL X b σ H ds2) (hz : ds.length + ds2.length ≤ 100000) : EL X (.BinOp a .Add b pos) σ H (ds ++ ds2) := fun H1 q Q kq =>
  of_pe (pe_op op_cat (pe_run a) (pe_run b)) (ha H1 q _ fun l xs H2 q2 hx hda => hb H2 (q.trans q2) _ fun l2 ys H3 q3 hy hdb =>
    ⟨l, l2, xs, ys, rfl, rfl, q3 l _ hx, hy, Evl.sz_of (by rw [dpa_len hda, dpa_len hdb]; exact hz), fun p hp => kq p _ _ (fresh_back (q2.trans q3) hp) ((q2.trans q3).trans (Evl.Ex.new hp)) upd_same ((Evl.Ex.new hp).dpa (dpa_app (q3.dpa hda) hdb))⟩)
end
section
variable {P : Program} {w : World} {K : PySem.W.Frag} {mg : Str → Option Value} {base : Heap} {f : Addr} {fd : FuncData}
def FPut (ds : List PyData) (d : PyData) : Prop := ∃ (c : Cls) (lot : List Int), ds = [clsD c, igs lot] ∧ Wf c ∧ Lot c.1.length lot ∧ d = clsD (putOf c lot)
theorem ok_put_back_in [B : Bl mg] (D : C8.Def K mg "put_back_in" (topS 31) f fd) (b : Binds K fd ["cls", "clocks"] []) : C8.Cal P w K mg base 1 "put_back_in" (spD K FPut) [] := by
  refine def_ok (N := ["cls", "clocks", "wholes", "order", "lower", "left", "first", "clock", "whole", "group"]) D b (by decide +kernel) (fun ds d h => by obtain ⟨c, g, rfl, _⟩ := h; rfl) ?_
  rintro X rfl rfl rfl rfl rfl C H vs ds d En hv hF q qn
  obtain ⟨c, lot, rfl, W, L, rfl⟩ := hF
  obtain ⟨v0, v1, rfl, d0, d1⟩ := dpa2 hv
  obtain ⟨ws, gs⟩ := c
  have ln : ws.length ≤ 3 := W.ord.len
  have few : gs.length ≤ 1000 := W.ord.few
  have ll : lot.length ≤ ws.length := L.len
  obtain ⟨g0, gr, rfl⟩ : ∃ g r, gs = g :: r := by
    have h := W.ord.ne
    cases gs with
    | nil => exact absurd rfl h
    | cons g r => exact ⟨g, r, rfl⟩
  have nls : noLs ((g0 :: gr).map igs) = true := noLs_map igs noL_ints _
  have glen : ∀ g ∈ g0 :: gr, g.length ≤ 3 := fun g hg => Nat.le_trans (W.ord.lot g hg).len ln
  refine sb_cons (st_unp2 2 3 (ed_var 0 rfl d0) fun v2 v3 H1 q1 d2 d3 => ?_)
  refine sb_cons (st_asg 4 (ed_tupL (EL.is (el_map2 (own := [("clock", 7), ("whole", 8)]) 7 8 (fun d => match d with | .tuple [.int n, .int x] => .int (if n ∈ lot then 0 else x) | _ => .none) (ei_enumT (ed_var 2 rfl d2) (noLs_igs ws)) (fun d hd => en_pair hd) (fun d1' d2' hd v1 v2 H' q' e1 e2 s0 H0 A cl fp C' => ?_) (fun d hd => ?_) ?_)
    ((enI_map (fun n x => .int (if (n : Int) ∈ lot then 0 else x)) _ (fun _ _ => rfl) 0 ws).trans (enI_lower lot 0 ws))).ed) fun v4 H2 q2 d4 => ?_)
  · obtain ⟨i, x, rfl, rfl, _⟩ := int_pair hd
    refine ed_if (t := decide ((i : Int) ∈ lot)) (et_cmp od_inT (ed_var 7 rfl e1) (ed_var 1 rfl ((q1.trans q').dp d1))) (fun h => ED.is ed_int ?_) fun h => ED.is (ed_var 8 rfl e2) ?_
    · show PyData.int 0 = PyData.int _
      rw [if_pos (of_decide_eq_true h)]
    · show PyData.int x = PyData.int _
      rw [if_neg (of_decide_eq_false h)]
  · obtain ⟨d1, d2, rfl⟩ := en_pair hd
    obtain ⟨i, x, rfl, rfl, _⟩ := int_pair hd
    rfl
  · rw [enD_len, List.length_map]
    show ws.length ≤ 40000
    omega
  have Q2 := q1.trans q2
  refine sb_cons (st_asgLc1 (j := 5) (own := [("group", 9)]) 9 (fun _ => true) (fun d => match d with | .tuple ds => .tuple ((ds.filter (fun d => match d with | .int i => !decide (i ∈ lot) | _ => false)).map fun d => d) | _ => .none) (ei_tup (ed_var 3 rfl (q2.dp d3)) nls) (fun d hd v H' q' dv => ⟨bt_nil, fun _ s0 H0 A cl fp C' => ?_⟩) (fun d hd => ?_) (fun pl xs H3 hpl q3 hx3 dx3 => ?_) (by rw [List.length_map]; show (g0 :: gr).length ≤ 40000; omega))
  · obtain ⟨g, hg, rfl⟩ := List.mem_map.mp hd
    refine ed_tupL (EL.ed (el_lc1 (own := [("clock", 7)]) 7 (fun d => match d with | .int i => !decide (i ∈ lot) | _ => false) (fun d => d) (ei_tup (ed_var 9 rfl dv) (noLs_igs g)) (fun d hd v' H'' q'' dv' => ?_) (fun d hd => ?_) (hz := ?_)))
    · obtain ⟨i, hi, rfl⟩ := List.mem_map.mp hd
      exact ⟨bt_one fun s0 H0 A cl fp C' => et_cmp od_notInT (ed_var 7 rfl dv') (ed_var 1 rfl (((Q2.trans q').trans q'').dp d1)), fun _ s0 H0 A cl fp C' => ed_var 7 rfl dv'⟩
    · obtain ⟨i, hi, rfl⟩ := List.mem_map.mp hd
      rfl
    · rw [List.length_map]
      have := glen g hg
      omega
  · obtain ⟨g, hg, rfl⟩ := List.mem_map.mp hd
    show noLs _ = true
    rw [filt_ints]
    exact noLs_igs _
  have eL : ((((g0 :: gr).map igs).filter (fun _ => true)).map (fun d => match d with | .tuple ds => .tuple ((ds.filter (fun d => match d with | .int i => !decide (i ∈ lot) | _ => false)).map fun d => d) | _ => PyData.none)) = ((g0 :: gr).map (fltI lot)).map igs := by
    rw [filter_yes, List.map_map, List.map_map]
    refine List.map_congr_left fun g _ => ?_
    show PyData.tuple _ = PyData.tuple _
    rw [filt_ints]
  rw [eL] at dx3
  have dL : Dp X.K H3 (.ref pl) (.list (((g0 :: gr).map (fltI lot)).map igs)) := .lst (sq_of hx3) dx3
  have Q3 := Q2.trans q3
  refine sb_cons (st_asg 6 (ed_tupL (el_sorted (ns := fltI lot g0 ++ lot) (ED.is (EL.ed (el_lst (ea_starT (ed_ixL (ed_var 5 rfl dL) ed_int (show atI _ _ = some (igs (fltI lot g0)) from atI_nat (by rfl))) (ea_starT (ed_var 1 rfl (Q3.dp d1)) ea_nil)) ?_)) ?_) ?_).ed) fun v6 H4 q4 d6 => ?_)
  · have := fltI_len lot g0
    have := glen g0 (List.mem_cons_self ..)
    simp only [List.length_append, List.length_map, List.length_nil]
    omega
  · rw [List.append_nil, List.map_append]
  · have := fltI_len lot g0
    have := glen g0 (List.mem_cons_self ..)
    rw [List.length_append]
    omega
  refine sb_one (st_ret (ED.is (ed_tup (ea_cons (ed_var 4 rfl ((q3.trans q4).dp d4)) (ea_cons (ed_tup (ea_cons (ed_var 6 rfl d6) (ea_starL (EL.ed (el_lc1 (own := [("group", 9)]) 9 (fun d => match d with | .tuple ds => !decide (ds = []) | _ => false) (fun d => d) (ei_list (EL.ed (el_slL (ed_var 5 rfl (q4.dp dL)) (eo_some ed_int) eo_none))) (fun d hd v H' q' dv => ?_) (fun d hd => ?_) (hz := ?_))) ea_nil)) ?_) ea_nil))) ?_) fun v H5 q5 dv => q v H5 ((Q3.trans q4).trans q5) dv)
  · rw [cut_tail, ← List.map_tail] at hd
    obtain ⟨g, hg, rfl⟩ := List.mem_map.mp hd
    refine ⟨bt_one fun s0 H0 A cl fp C' => ET.is (et_cmp (od_neD (sh_ints g) (by decide)) (ed_var 9 rfl dv) (ed_tup ea_nil)) ?_, fun _ s0 H0 A cl fp C' => ed_var 9 rfl dv⟩
    cases g with
    | nil => rfl
    | cons x r => rfl
  · rw [cut_tail, ← List.map_tail] at hd
    obtain ⟨g, hg, rfl⟩ := List.mem_map.mp hd
    exact noL_ints g
  · rw [cut_tail, List.length_tail, List.length_map, List.length_map]
    omega
  · rw [cut_tail, List.map_id', List.append_nil, List.length_cons]
    refine Nat.le_trans (Nat.succ_le_succ (List.length_filter_le _ _)) ?_
    rw [List.length_tail, List.length_map, List.length_map]
    omega
  · rw [cut_tail, List.map_id', List.append_nil, ← List.map_tail, List.filter_map]
    show PyData.tuple [_, PyData.tuple (_ :: _)] = PyData.tuple [_, PyData.tuple (igs _ :: List.map igs _)]
    have e : (fltI lot g0 :: gr.map (fltI lot)).tail.filter ((fun d => match d with | .tuple ds => !decide (ds = []) | _ => false) ∘ igs) = ((List.map (List.filter fun i => !decide (i ∈ lot)) (g0 :: gr)).tail.filter fun g => !decide (g = [])) := by
      show (gr.map (fltI lot)).filter _ = (gr.map (fltI lot)).filter _
      refine List.filter_congr fun g _ => ?_
      cases g with
      | nil => rfl
      | cons x r => rfl
    rw [show ((g0 :: gr).map (fltI lot)).tail = (fltI lot g0 :: gr.map (fltI lot)).tail from rfl, e]
    rfl
end
end K9

namespace K9
open PySem PySem.Spec PyProof.Rows L2 KD
open Evl (Ex sq_of st_of fresh_back ex_l ex_t)
def putC (ws : List Int) (m p : Int) (f : List (Int × Int)) (c : Int) : List (Int × Int) := f.set c.toNat (low (ws.getD c.toNat 0 * m + p) m)
def stepG (ws : List Int) (m : Int) (st : Nat × List (Int × Int)) (g : List Int) : Nat × List (Int × Int) := (st.1 + 1, g.foldl (putC ws m st.1) st.2)
def ptAt (ws : List Int) (gs hs : List (List Int)) : Nat × List (Int × Int) := hs.foldl (stepG ws gs.length) (0, List.replicate ws.length (0, 1))
def pointOf (c : Cls) : List (Int × Int) := (ptAt c.1 c.2 c.2).2
theorem ptAt_fst (ws : List Int) (gs : List (List Int)) : ∀ hs, (ptAt ws gs hs).1 = hs.length := by
  have h : ∀ (hs : List (List Int)) (st : Nat × List (Int × Int)), (hs.foldl (stepG ws gs.length) st).1 = st.1 + hs.length := by
    intro hs
    induction hs with
    | nil => intro st; rfl
    | cons g r ih =>
      intro st
      rw [List.foldl_cons, ih]
      show st.1 + 1 + r.length = st.1 + (r.length + 1)
      omega
  intro hs
  have := h hs (0, List.replicate ws.length (0, 1))
  unfold ptAt
  rw [this]
  exact Nat.zero_add _
theorem putC_len (ws : List Int) (m p : Int) : ∀ (g : List Int) (f : List (Int × Int)), (g.foldl (putC ws m p) f).length = f.length
  | [], _ => rfl
  | c :: r, f => by
    rw [List.foldl_cons, putC_len ws m p r]
    unfold putC
    rw [List.length_set]
theorem ptAt_len (ws : List Int) (gs : List (List Int)) (hs : List (List Int)) : (ptAt ws gs hs).2.length = ws.length := by
  have h : ∀ (hs : List (List Int)) (st : Nat × List (Int × Int)), (hs.foldl (stepG ws gs.length) st).2.length = st.2.length := by
    intro hs
    induction hs with
    | nil => intro st; rfl
    | cons g r ih =>
      intro st
      rw [List.foldl_cons, ih]
      exact putC_len _ _ _ _ _
  unfold ptAt
  rw [h]
  exact List.length_replicate ..
section
variable {P : Program} {w : World} {K : PySem.W.Frag} {mg : Str → Option Value} {base : Heap} {f : Addr} {fd : FuncData}
def FPoint (ds : List PyData) (d : PyData) : Prop := ∃ c : Cls, ds = [clsD c] ∧ Wf c ∧ d = rds (pointOf c)
theorem sm_small {i : Int} (h : i.natAbs < 1024) : Sm 10 i := h
theorem ok_point_of [B : Bl mg] (D : C8.Def K mg "point_of" (topS 28) f fd) (b : Binds K fd ["cls"] []) (c1 : C8.Cal P w K mg base 2 "lowest" (spD K FLowest) []) : C8.Cal P w K mg base 3 "point_of" (spD K FPoint) [] := by
  refine def_ok (N := ["cls", "wholes", "order", "found", "place", "group", "clock"]) D b (by decide +kernel) (fun ds d h => by obtain ⟨c, rfl, _⟩ := h; rfl) ?_
  rintro X rfl rfl rfl rfl rfl C H vs ds d En hv hF q qn
  obtain ⟨c, rfl, W, rfl⟩ := hF
  obtain ⟨v0, rfl, d0⟩ := dpa1 hv
  obtain ⟨ws, gs⟩ := c
  have ln : ws.length ≤ 3 := W.ord.len
  have few : gs.length ≤ 1000 := W.ord.few
  have gpos : 0 < gs.length := List.length_pos_iff.mpr W.ord.ne
  have nls : noLs (gs.map igs) = true := noLs_map igs noL_ints _
  refine sb_cons (st_unp2 1 2 (ed_var 0 rfl d0) fun v1 v2 H1 q1 d1 d2 => ?_)
  refine sb_cons (st_asgL 3 (el_rep (n := ws.length) (el_lst (ea_cons (ed_tup (ea_cons ed_int (ea_cons ed_int ea_nil))) ea_nil)) (ED.is (ed_len (ed_var 1 rfl d1)) (by rw [List.length_map])) (by omega)) fun fp xs0 H2 hfp q2 hx0 dx0 => ?_)
  have nfp : H fp = none := fresh_back q1 hfp
  have e0 : List.replicate ws.length (PyData.tuple [.int 0, .int 1]) = (ptAt ws gs (gs.take 0)).2.map fr := by
    rw [List.take_zero]
    show _ = (List.replicate ws.length (0, 1)).map fr
    rw [List.map_replicate]
    rfl
  rw [e0] at dx0
  refine sb_cons (st_for (ei_enumT (ed_var 2 rfl (q2.dp d2)) nls) fun H3 q3 => ⟨fun i σ' H' => ∃ y4 y5 y6 xs, σ' = [some v0, some v1, some v2, some (.ref fp), y4, y5, y6] ∧ ExT H3 H' ∧ Ex H H' ∧ H' fp = some (.lst xs) ∧ DpAll X.K H' xs ((ptAt ws gs (gs.take i)).2.map fr), ⟨none, none, none, xs0, rfl, ExT.refl _, (q1.trans q2).trans q3, q3 fp _ hx0, q3.dpa dx0⟩, fun i σ' H' h => by obtain ⟨_, _, _, _, _, h, _⟩ := h; exact h, fun i d v σ' H' H'' hd hP q4 dv => ?_, fun σ' H4 hP => ?_⟩)
  · obtain ⟨y4, y5, y6, xs, rfl, hT, hE, hx, dx⟩ := hP
    rw [enD_get, Nat.zero_add] at hd
    cases ed : (gs.map igs)[i]? with
    | none => rw [ed] at hd; cases hd
    | some d' =>
      rw [ed] at hd
      have hd := (Option.some.inj hd).symm
      subst hd
      have hg : ∃ g, gs[i]? = some g ∧ d' = igs g := by
        rw [List.getElem?_map] at ed
        cases e : gs[i]? with
        | none => rw [e] at ed; cases ed
        | some g =>
          rw [e] at ed
          exact ⟨g, rfl, (Option.some.inj ed).symm⟩
      obtain ⟨g, hg, rfl⟩ := hg
      have hgm : g ∈ gs := List.mem_of_getElem? hg
      have hi : i < gs.length := (List.getElem?_eq_some_iff.mp hg).1
      have lti : (gs.take i).length = i := by rw [List.length_take]; omega
      have et : (ptAt ws gs (gs.take (i + 1))).2 = g.foldl (putC ws gs.length i) (ptAt ws gs (gs.take i)).2 := by
        rw [List.take_add_one, hg]
        show (ptAt ws gs (gs.take i ++ [g])).2 = _
        unfold ptAt
        rw [List.foldl_append]
        show List.foldl (putC ws gs.length ((ptAt ws gs (gs.take i)).1)) (ptAt ws gs (gs.take i)).2 g = _
        rw [ptAt_fst, lti]
        rfl
      refine tg_two 4 5 dv fun v4 v5 d4 d5 => ?_
      refine sb_one (st_for (ei_tup (ed_var 5 rfl d5) (noLs_igs g)) fun H5 q5 => ⟨fun j σ' H' => ∃ y6 xs, σ' = [some v0, some v1, some v2, some (.ref fp), some v4, some v5, y6] ∧ ExT H5 H' ∧ Ex H H' ∧ H' fp = some (.lst xs) ∧ DpAll X.K H' xs (((g.take j).foldl (putC ws gs.length i) (ptAt ws gs (gs.take i)).2).map fr), ⟨y6, xs, rfl, ExT.refl _, (hE.trans q4).trans q5, q5 fp _ (q4 fp _ hx), q5.dpa (q4.dpa dx)⟩, fun i σ' H' h => by obtain ⟨_, _, _, h, _⟩ := h; exact h, fun j d v σ' H' H'' hd hP q6 dv => ?_, fun σ' H6 hP => ?_⟩)
      · obtain ⟨y6, xs, rfl, hT2, hE2, hx2, dx2⟩ := hP
        rw [List.getElem?_map] at hd
        cases ec : g[j]? with
        | none => rw [ec] at hd; cases hd
        | some c =>
          rw [ec] at hd
          have hd := (Option.some.inj hd).symm
          subst hd
          have hc := List.mem_of_getElem? ec
          obtain ⟨x, hxw, hc0⟩ := W.at (g := g) hgm hc
          have hx' : (ws.map PyData.int)[c.toNat]? = some (.int x) := by rw [List.getElem?_map, show ws[c.toNat]? = some x from hxw]; rfl
          have ha := atI_nat hx'
          rw [show ((c.toNat : Nat) : Int) = c by omega] at ha
          have tT : ExT H1 H'' := (((((q2.trans q3).t.trans hT).trans q4.t).trans q5.t).trans hT2).trans q6.t
          have dw := dp_exT tT _ _ (noL_ints ws) d1
          have dg := dp_exT tT _ _ (show noL (.tuple (gs.map igs)) = true from nls) d2
          have dp4 := dp_exT ((q5.t.trans hT2).trans q6.t) _ _ (by rfl) d4
          have hw4 := W.wh x (List.mem_of_getElem? hxw)
          have hlen : (gs.map igs).length = gs.length := List.length_map ..
          refine tg_name 6 (sb_one (of_ps (ps_asg (pe_run _) (pg_sub (pe_run _) (pe_run _) set_list)) (ED.go (d := fr (low (x * gs.length + i) gs.length)) (ed_call c1 (ea_cons (ed_bin od_add (ed_bin (od_mul ((sm_small (by omega)).mulW (sm_small (by rw [hlen]; omega)))) (ed_ixT (ed_var 1 rfl dw) (ed_var 6 rfl dv) ha) (ed_len (ed_var 2 rfl dg))) (ed_var 4 rfl dp4)) (ea_cons (ed_len (ed_var 2 rfl dg)) ea_nil)) ⟨_, _, rfl, by rw [hlen]; omega, by rw [hlen]; exact (sm_small (by omega)).mono (by decide), by rw [hlen]⟩) fun v7 H7 q7 d7 => rn_var 3 rfl (rn_var 6 rfl ?_))))
          cases dv
          have hx7 := q7 fp _ (q6 fp _ hx2)
          have lx : xs.length = ws.length := by
            rw [dpa_len dx2, List.length_map, putC_len, ptAt_len]
          have hcl : c.toNat < ws.length := (List.getElem?_eq_some_iff.mp hxw).1
          have hix : ixN xs.length c = some c.toNat := by
            have h := Evl.ixN_nat (n := xs.length) (j := c.toNat) (by omega)
            rw [show ((c.toNat : Nat) : Int) = c by omega] at h
            exact h
          refine ⟨fp, xs, c, c.toNat, rfl, rfl, hx7, hix, some (.int c), xs.set c.toNat v7, rfl, ((hT2.trans q6.t).trans q7.t).trans (ExT.lst hx7), Evl.Ex.mut ((hE2.trans q6).trans q7) nfp, upd_same, ?_⟩
          rw [List.take_add_one, ec]
          show DpAll X.K _ _ ((List.foldl (putC ws gs.length i) (ptAt ws gs (gs.take i)).2 (g.take j ++ [c])).map fr)
          rw [List.foldl_append]
          have h9 := dpa_exT (ExT.lst (o := .lst (xs.set c.toNat v7)) hx7) _ _ (noLs_map fr noL_fr _) (show DpAll X.K H7 _ (((((g.take j).foldl (putC ws gs.length i) (ptAt ws gs (gs.take i)).2)).set c.toNat (low (x * gs.length + i) gs.length)).map fr) by
            rw [List.map_set]
            exact dpa_set d7 c.toNat (q7.dpa (q6.dpa dx2)))
          have eg : ws.getD c.toNat 0 = x := by
            rw [List.getD_eq_getElem?_getD, show ws[c.toNat]? = some x from hxw]
            rfl
          show DpAll X.K _ _ ((putC ws gs.length i _ c).map fr)
          unfold putC
          rw [eg]
          exact h9
      · obtain ⟨y6, xs, rfl, hT2, hE2, hx2, dx2⟩ := hP
        refine ⟨some v4, some v5, y6, xs, rfl, (((hT.trans q4.t).trans q5.t).trans hT2), hE2, hx2, ?_⟩
        rw [List.length_map, List.take_length] at dx2
        rw [et]
        exact dx2
  · obtain ⟨y4, y5, y6, xs, rfl, hT, hE, hx, dx⟩ := hP
    rw [enD_len, List.length_map, List.take_length] at dx
    exact sb_one (st_ret (ed_tupL (ed_var 3 rfl (.lst (sq_of hx) dx))) fun v H5 q5 dv => q v H5 (hE.trans q5) dv)
end
end K9

namespace K9
open PySem PySem.Spec PyProof.Rows L2 KD
open Evl (Ex sq_of st_of fresh_back ex_l ex_t)
/-- valid readings -/
def Val (r : List (Int × Int)) : Prop := (∀ q ∈ r, Good q ∧ q.1 ≤ 4 * q.2) ∧ 1 ≤ r.length ∧ r.length ≤ 3
theorem Good.ok {q : Int × Int} (h : Good q) : Ok1 q := ⟨h.1, h.2.1, h.2.2.1, h.2.2.2.1⟩
section
variable {P : Program} {w : World} {K : PySem.W.Frag} {mg : Str → Option Value} {base : Heap} {f : Addr} {fd : FuncData}
def FReqLow (ds : List PyData) (d : PyData) : Prop := ∃ r : List (Int × Int), ds = [rds r, .int r.length] ∧ Val r ∧ d = .none
theorem ok_require_low [B : Bl mg] (D : C8.Def K mg "require_low" (topS 32) f fd) (b : Binds K fd ["value", "clocks"] []) (c1 : C8.Cal P w K mg base 6 "are_low" (spD K FLow) []) : C8.Cal P w K mg base 7 "require_low" (spD K FReqLow) [] := by
  refine def_ok (N := ["value", "clocks"]) D b (by decide +kernel) (fun ds d h => by obtain ⟨c, rfl, _⟩ := h; rfl) ?_
  rintro X rfl rfl rfl rfl rfl C H vs ds d En hv hF q qn
  obtain ⟨r, rfl, ⟨hg, l1, l3⟩, rfl⟩ := hF
  obtain ⟨v0, v1, rfl, d0, d1⟩ := dpa2 hv
  refine sb_cons (st_if (t := false) (et_not (t := true) (et_val (ed_call c1 (ea_cons (ed_var 0 rfl d0) (ea_cons (ed_var 1 rfl d1) ea_nil)) ⟨r, rfl, hg, by omega, rfl⟩))) (fun h => nomatch h) fun _ H1 q1 => sb_nil (sb_nil (qn H1 q1 .non _)))
def FReqClass (ds : List PyData) (d : PyData) : Prop := ∃ c : Cls, ds = [clsD c] ∧ Wf c ∧ d = .none
theorem ok_require_class [B : Bl mg] (D : C8.Def K mg "require_class" (topS 33) f fd) (b : Binds K fd ["value"] []) (c1 : C8.Cal P w K mg base 6 "is_class_any" (spD K FClass) []) : C8.Cal P w K mg base 7 "require_class" (spD K FReqClass) [] := by
  refine def_ok (N := ["value"]) D b (by decide +kernel) (fun ds d h => by obtain ⟨c, rfl, _⟩ := h; rfl) ?_
  rintro X rfl rfl rfl rfl rfl C H vs ds d En hv hF q qn
  obtain ⟨c, rfl, W, rfl⟩ := hF
  obtain ⟨v0, rfl, d0⟩ := dpa1 hv
  refine sb_cons (st_if (t := false) (et_not (t := true) (et_val (ed_call c1 (ea_cons (ed_var 0 rfl d0) ea_nil) ⟨c, rfl, W, rfl⟩))) (fun h => nomatch h) fun _ H1 q1 => sb_nil (sb_nil (qn H1 q1 .non _)))
def FClsOf (ds : List PyData) (d : PyData) : Prop := ∃ r : List (Int × Int), ds = [rds r] ∧ Val r ∧ d = clsD (clsOf r)
theorem ok_class_of [B : Bl mg] (D : C8.Def K mg "class_of" (topS 34) f fd) (b : Binds K fd ["readings"] []) (c1 : C8.Cal P w K mg base 7 "require_low" (spD K FReqLow) []) (c2 : C8.Cal P w K mg base 2 "class_in" (spD K FClassIn) []) : C8.Cal P w K mg base 8 "class_of" (spD K FClsOf) [] := by
  refine def_ok (N := ["readings"]) D b (by decide +kernel) (fun ds d h => by obtain ⟨c, rfl, _⟩ := h; rfl) ?_
  rintro X rfl rfl rfl rfl rfl C H vs ds d En hv hF q qn
  obtain ⟨r, rfl, V, rfl⟩ := hF
  obtain ⟨v0, rfl, d0⟩ := dpa1 hv
  have l1 := V.2.1
  have l3 := V.2.2
  have hlen : (r.map fr).length = r.length := List.length_map ..
  refine sb_cons (st_expr (ed_call c1 (ea_cons (ed_var 0 rfl d0) (ea_cons (ed_if (t := true) (et_w (ew_and (t := true) (u := true) (et_val (ed_isi "tuple" true (ed_var 0 rfl d0) B.tuple boot_tuple)) fun _ => ew_and1 (ET.is (et_cmp (od_inT (ns := [1, 2, 3])) (ed_len (ed_var 0 rfl d0)) (ed_tup (ds := [.int 1, .int 2, .int 3]) (ea_cons ed_int (ea_cons ed_int (ea_cons ed_int ea_nil))))) ?_))) (fun _ => ed_len (ed_var 0 rfl d0)) (fun h => nomatch h)) ea_nil)) ⟨r, by rw [hlen], V, rfl⟩) fun H1 q1 => ?_)
  · refine decide_eq_true ?_
    rw [hlen]
    simp only [List.mem_cons, List.not_mem_nil, or_false]
    omega
  exact sb_one (st_ret (ed_call c2 (ea_cons (ed_var 0 rfl (q1.dp d0)) ea_nil) ⟨r, rfl, fun q hq => (V.1 q hq).1.ok, l3, rfl⟩) fun v H2 q2 dv => q v H2 (q1.trans q2) dv)
theorem ok_told_point [B : Bl mg] (D : C8.Def K mg "told_point" (topS 35) f fd) (b : Binds K fd ["cls"] []) (c1 : C8.Cal P w K mg base 7 "require_class" (spD K FReqClass) []) (c2 : C8.Cal P w K mg base 3 "point_of" (spD K FPoint) []) : C8.Cal P w K mg base 8 "told_point" (spD K FPoint) [] := by
  refine def_ok (N := ["cls"]) D b (by decide +kernel) (fun ds d h => by obtain ⟨c, rfl, _⟩ := h; rfl) ?_
  rintro X rfl rfl rfl rfl rfl C H vs ds d En hv hF q qn
  obtain ⟨c, rfl, W, rfl⟩ := hF
  obtain ⟨v0, rfl, d0⟩ := dpa1 hv
  exact sb_cons (st_expr (ed_call c1 (ea_cons (ed_var 0 rfl d0) ea_nil) ⟨c, rfl, W, rfl⟩) fun H1 q1 => sb_one (st_ret (ed_call c2 (ea_cons (ed_var 0 rfl (q1.dp d0)) ea_nil) ⟨c, rfl, W, rfl⟩) fun v H2 q2 dv => q v H2 (q1.trans q2) dv))
def FIsIn (ds : List PyData) (d : PyData) : Prop := ∃ (c : Cls) (r : List (Int × Int)), ds = [clsD c, rds r] ∧ Wf c ∧ Val r ∧ r.length = c.1.length ∧ clsOf r = c ∧ d = .bool true
theorem can_cls (c : Cls) : PyData.canLay0 (clsD c) = true := by
  unfold clsD
  simp only [PyData.canLay0, PyData.canLayAll0, can_ints, canAll_map _ can_ints c.2, Bool.and_self]
theorem eqv_cls (c : Cls) : PyData.eqv (clsD c) (clsD c) = true := SeqAt.eqv_refl _ (can_cls c)
theorem ok_is_in [B : Bl mg] (D : C8.Def K mg "is_in" (topS 36) f fd) (b : Binds K fd ["cls", "readings"] []) (c1 : C8.Cal P w K mg base 7 "require_class" (spD K FReqClass) []) (c2 : C8.Cal P w K mg base 7 "require_low" (spD K FReqLow) []) (c3 : C8.Cal P w K mg base 2 "class_in" (spD K FClassIn) []) : C8.Cal P w K mg base 8 "is_in" (spD K FIsIn) [] := by
  refine def_ok (N := ["cls", "readings"]) D b (by decide +kernel) (fun ds d h => by obtain ⟨c, r, rfl, _⟩ := h; rfl) ?_
  rintro X rfl rfl rfl rfl rfl C H vs ds d En hv hF q qn
  obtain ⟨c, r, rfl, W, V, hl, hc, rfl⟩ := hF
  obtain ⟨v0, v1, rfl, d0, d1⟩ := dpa2 hv
  refine sb_cons (st_expr (ed_call c1 (ea_cons (ed_var 0 rfl d0) ea_nil) ⟨c, rfl, W, rfl⟩) fun H1 q1 => ?_)
  refine sb_cons (st_expr (ed_call c2 (ea_cons (ed_var 1 rfl (q1.dp d1)) (ea_cons (ed_len (ED.is (ed_ixT (ed_var 0 rfl (q1.dp d0)) ed_int rfl) rfl)) ea_nil)) ⟨r, by rw [List.length_map, hl], V, rfl⟩) fun H2 q2 => ?_)
  refine sb_one (st_ret (ED.is (ed_cmp (od_eqD (sh_cls (clsOf r)) (sh_cls c)) (ed_call c3 (ea_cons (ed_var 1 rfl ((q1.trans q2).dp d1)) ea_nil) ⟨r, rfl, fun q hq => (V.1 q hq).1.ok, V.2.2, rfl⟩) (ed_var 0 rfl ((q1.trans q2).dp d0))) ?_) fun v H3 q3 dv => q v H3 ((q1.trans q2).trans q3) dv)
  rw [hc, eqv_cls]
theorem ok_next_class [B : Bl mg] (D : C8.Def K mg "next_class" (topS 37) f fd) (b : Binds K fd ["cls"] []) (c1 : C8.Cal P w K mg base 7 "require_class" (spD K FReqClass) []) (c2 : C8.Cal P w K mg base 2 "next_in" (spD K FNextIn) []) : C8.Cal P w K mg base 8 "next_class" (spD K FNextIn) [] := by
  refine def_ok (N := ["cls"]) D b (by decide +kernel) (fun ds d h => by obtain ⟨c, rfl, _⟩ := h; rfl) ?_
  rintro X rfl rfl rfl rfl rfl C H vs ds d En hv hF q qn
  obtain ⟨c, rfl, W, rfl⟩ := hF
  obtain ⟨v0, rfl, d0⟩ := dpa1 hv
  exact sb_cons (st_expr (ed_call c1 (ea_cons (ed_var 0 rfl d0) ea_nil) ⟨c, rfl, W, rfl⟩) fun H1 q1 => sb_one (st_ret (ed_call c2 (ea_cons (ed_var 0 rfl (q1.dp d0)) ea_nil) ⟨c, rfl, W, rfl⟩) fun v H2 q2 dv => q v H2 (q1.trans q2) dv))
theorem ok_put_back [B : Bl mg] (D : C8.Def K mg "put_back" (topS 38) f fd) (b : Binds K fd ["cls", "clocks"] []) (c1 : C8.Cal P w K mg base 7 "require_class" (spD K FReqClass) []) (c2 : C8.Cal P w K mg base 3 "is_lot" (spD K FLot) []) (c3 : C8.Cal P w K mg base 1 "put_back_in" (spD K FPut) []) : C8.Cal P w K mg base 8 "put_back" (spD K FPut) [] := by
  refine def_ok (N := ["cls", "clocks"]) D b (by decide +kernel) (fun ds d h => by obtain ⟨c, r, rfl, _⟩ := h; rfl) ?_
  rintro X rfl rfl rfl rfl rfl C H vs ds d En hv hF q qn
  obtain ⟨c, lot, rfl, W, L, rfl⟩ := hF
  obtain ⟨v0, v1, rfl, d0, d1⟩ := dpa2 hv
  refine sb_cons (st_expr (ed_call c1 (ea_cons (ed_var 0 rfl d0) ea_nil) ⟨c, rfl, W, rfl⟩) fun H1 q1 => ?_)
  refine sb_cons (st_if (t := false) (et_not (t := true) (et_val (ed_call c2 (ea_cons (ed_len (ED.is (ed_ixT (ed_var 0 rfl (q1.dp d0)) ed_int rfl) rfl)) (ea_cons (ed_var 1 rfl (q1.dp d1)) ea_nil)) ⟨_, lot, by rw [List.length_map], L, rfl⟩))) (fun h => nomatch h) fun _ H2 q2 => sb_nil ?_)
  exact sb_one (st_ret (ed_call c3 (ea_cons (ed_var 0 rfl ((q1.trans q2).dp d0)) (ea_cons (ed_var 1 rfl ((q1.trans q2).dp d1)) ea_nil)) ⟨c, lot, rfl, W, L, rfl⟩) fun v H3 q3 dv => q v H3 ((q1.trans q2).trans q3) dv)
end
end K9

namespace KD
open PySem PySem.Spec PyProof.Rows L2

/-! ### sorted by a key, whatever is kept below n0 -/
/-- J stays when only objects at n0 and above are written -/
def JCl (n0 : Nat) (J : Shared → Prop) : Prop := ∀ (s : Shared) (h' : Heap) (tk : Nat), J s → (∀ b o, b < n0 → s.heap.get? b = some o → h'.get? b = some o) → J { s with heap := h', toks := tk }
theorem below_same {n0 : Nat} {g g' : Heap} {x : Addr} (sb : Heap.SameBut x g g') (hx : n0 ≤ x) (b : Addr) (o : Obj) (hb : b < n0) (e : g.get? b = some o) : g'.get? b = some o :=
  (sb.2 b fun z => by subst z; exact absurd hb (Nat.not_lt.mpr hx)).trans e
/-- the list that is sorted and the one of its keys, both of them own -/
structure Two (n0 : Nat) (J : Shared → Prop) (a c : Addr) (ks : Array Value) (e1 e : Nat) (s : Shared) : Prop where
  ok : J s
  ne : c ≠ a
  la : n0 ≤ a
  lc : n0 ≤ c
  at_ : s.heap.get? a = some (seqObj "list" #[] e1)
  keys : s.heap.get? c = some (seqObj "list" ks e)
section
variable {prog : Program} {w : World} {A : Around} {E : Value → Shared → Prop} {s : Shared} {J : Shared → Prop} {n0 : Nat} {a c : Addr} {us : List Value} {kz : List Int} {ks : Array Value} {e e1 : Nat} {R : PySem.Fin → Shared → Prop}
theorem len_keys (hk : IntsAre ks.toList kz) (hl : kz.length = us.length) : ks.size = us.length := by
  rw [← hl, ← Array.length_toList]
  exact hk.length
/-- what is done with the ordered pairs -/
theorem sk_close {st : SortSt} (hJ : JCl n0 J) (t : Two n0 J a c ks e1 e s) (hk : IntsAre ks.toList kz) (hl : kz.length = us.length) (hu : us.length < 64) (pm : (arrOf st).Perm (ks.zip us.toArray)) (so : SortedTo (arrOf st) (arrOf st).size) (hf : failedOf st = none)
    (k : ∀ s' out n, J s' → s'.heap.get? a = some (seqObj "list" out n) → KskOut false kz us out.toList → R (.done (.ret .none)) s') : wpAny (model prog w) A (ksk_tail a false e1 (.ref c) st) R E s := by
  have nk := len_keys hk hl
  have small : ∀ n, n ≤ us.length → n ≤ sizeLine ∧ n ≤ sizeLine + 1 := fun n hn => by
    rw [sizeLine_eq]
    omega
  have no : ((arrOf st).map (·.2)).size ≤ us.length := by
    rw [Array.size_map, pm.size_eq, Array.size_zip, nk]
    exact Nat.min_le_left _ _
  -- the keys go
  have b1 := Heap.SameBut.update s.heap c (Obj.mapSeq fun _ => (#[] : Array Value))
  have a1 := (b1.2 a (Ne.symm t.ne)).trans t.at_
  -- the list is filled
  have b2 := Heap.SameBut.update (s.heap.update c (Obj.mapSeq fun _ => (#[] : Array Value))) a (Obj.mapSeq fun _ => (arrOf st).map (·.2))
  have hn := get?_update_seq a1 fun _ => (arrOf st).map (·.2)
  unfold ksk_tail
  simp only [Bool.false_eq_true, if_false]
  refine wpAny_bind (listUpdate_at t.keys rfl (wpAny_bind (wpAny_letGo (wpAny_bind (seqEpoch_at a1 rfl (wpAny_bind (listUpdate_at a1 rfl ?_ (Nat.zero_le _) (small _ no).2)))))) (small _ (Nat.le_of_eq nk)).1 (Nat.zero_le _))
  rw [hf]
  simp only [bne_self_eq_false, Bool.false_eq_true, if_false]
  exact wpAny_pure (k _ _ _ (hJ s _ _ t.ok fun b o hb q => below_same b2 t.la b o hb (below_same b1 t.lc b o hb q)) hn (ksk_out (b := false) hk pm so))
/-- the ordering, once all keys are there -/
theorem sk_order (hJ : JCl n0 J) (t : Two n0 J a c ks e1 e s) (hk : IntsAre ks.toList kz) (hl : kz.length = us.length) (hu : us.length < 64)
    (k : ∀ s' out n, J s' → s'.heap.get? a = some (seqObj "list" out n) → KskOut false kz us out.toList → R (.done (.ret .none)) s') : wpAny (model prog w) A (ksk_end a false us.toArray e1 (.ref c) ks) R E s := by
  have nk := len_keys hk hl
  have nz : (ks.zip us.toArray).size = us.length := by
    rw [Array.size_zip, nk, List.size_toArray]
    exact Nat.min_self _
  unfold ksk_end
  simp only [Bool.false_eq_true, if_false, List.size_toArray, pure_bind]
  rcases Nat.lt_or_ge us.length 2 with h2 | h2
  · simp only [if_pos h2, pure_bind]
    rw [StateT.run_pure]
    refine wpAny_bind (wpAny_pure (sk_close (st := SortSt.mk' general' (ks.zip us.toArray) #[] 7 none) hJ t hk hl hu (Array.Perm.refl _) (fun i m him hm => ?_) rfl k))
    have hm' : m < (ks.zip us.toArray).size := hm
    obtain rfl : i = m := by omega
    exact Int.le_refl _
  · have n2 : ¬ us.length < 2 := Nat.not_lt.mpr h2
    simp only [if_neg n2]
    rw [ksk_kind hk (Nat.le_trans h2 (Nat.le_of_eq nk.symm))]
    have go := wpS_sortRuns (prog := prog) (w := w) (A := A) (E := E) (s := s) (a₀ := ks.zip us.toArray) (st := SortSt.mk' oneType' (ks.zip us.toArray) #[] 7 none)
      (Q := fun _ z => (arrOf z).Perm (ks.zip us.toArray) ∧ failedOf z = none ∧ SortedTo (arrOf z) (ks.zip us.toArray).size) (ksk_intKeys hk) ⟨Array.Perm.refl _, rfl, rfl, rfl⟩ (by omega) (by omega) fun z x y q => ⟨x, y, q⟩
    refine wpAny_bind (wpAny_pure (wpAny_bind (wpAny_mono go ?_ fun _ _ x => x)))
    rintro ⟨⟨⟩, z⟩ s2 ⟨rfl, pm, hf, so⟩
    exact sk_close hJ t hk hl hu pm (by rw [pm.size_eq]; exact so) hf k
/-- what a key's call must keep -/
def KeyTurn (prog : Program) (w : World) (A : Around) (n0 : Nat) (J : Shared → Prop) (f : Value) (us : List Value) (kz : List Int) : Prop :=
  ∀ (i : Nat) (u : Value) (x : Int), us[i]? = some u → kz[i]? = some x → ∀ s' : Shared, J s' → wpAny (model prog w) A (call f [u]) (fun r s2 => J s2 ∧ (∃ t, r = .int x t) ∧ ∀ b o, n0 ≤ b → s'.heap.get? b = some o → s2.heap.get? b = some o) (fun _ _ => False) s'
theorem sk_loop {f : Value} (hJ : JCl n0 J) (t : Two n0 J a c #[] e1 0 s) (hl : kz.length = us.length) (hu : us.length < 64) (turn : KeyTurn prog w A n0 J f us kz)
    (k : ∀ s' out n, J s' → s'.heap.get? a = some (seqObj "list" out n) → KskOut false kz us out.toList → R (.done (.ret .none)) s') : wpAny (model prog w) A (ksk_rest a f false us.toArray e1 (.ref c)) R E s := by
  unfold ksk_rest
  refine wpAny_bind (wpAny_rule ?_)
  first
    | rw [List.forIn_toArray]
    | rw [← Array.forIn_toList]
  refine wpAny_bind (ksk_fold (fun i z => ∃ got e, Two n0 J a c got e1 e z ∧ IntsAre got.toList (kz.take i)) us 0 s ⟨#[], 0, t, IntsAre.nil⟩ (fun m u z hm hz => ?_) fun z hz => ?_)
  · obtain ⟨got, e, tz, hg⟩ := hz
    rw [Nat.zero_add] at hg ⊢
    have lm : m < us.length := (List.getElem?_eq_some_iff.mp hm).1
    have hx : kz[m]? = some (kz[m]'(by omega)) := List.getElem?_eq_getElem (by omega)
    have gs : got.size ≤ us.length := by
      have q := hg.length
      rw [Array.length_toList, List.length_take] at q
      omega
    refine wpAny_bind (wpAny_attempt (wpAny_mono (turn m u _ hm hx z tz.ok) (fun r z2 ⟨jz, ⟨tk, er⟩, kp⟩ => ?_) fun _ _ no => no.elim))
    subst er
    have k2 := kp _ _ tz.lc tz.keys
    have bu := Heap.SameBut.update z2.heap c (Obj.mapSeq (·.push (.int (kz[m]'(by omega)) tk)))
    have hc2 := get?_update_seq k2 (·.push (Value.int (kz[m]'(by omega)) tk))
    refine wpAny_bind (listUpdate_at k2 rfl (wpAny_pure ⟨rfl, _, _, ⟨hJ z2 _ z2.toks jz (below_same bu tz.lc), tz.ne, tz.la, tz.lc, (bu.2 a (Ne.symm tz.ne)).trans (kp _ _ tz.la tz.at_), hc2⟩, ?_⟩) (by rw [sizeLine_eq]; omega) (by rw [Array.size_push, sizeLine_eq]; omega))
    rw [List.take_add_one, hx, Array.toList_push]
    exact ksk_snoc hg
  · obtain ⟨got, e, tz, hg⟩ := hz
    rw [Nat.zero_add, ← hl, List.take_length] at hg
    exact wpAny_bind (listItems_at tz.keys rfl (sk_order hJ tz hg hl hu k))
/-- xs.sort(key=f) of an own list -/
theorem sk_run {f : Value} {n : Nat} (hJ : JCl n0 J) (j : J s) (ha : s.heap.get? a = some (seqObj "list" us.toArray n)) (la : n0 ≤ a) (hl : kz.length = us.length) (hu : us.length < 64) (turn : KeyTurn prog w A n0 J f us kz)
    (k : ∀ s' out n, J s' → s'.heap.get? a = some (seqObj "list" out n) → KskOut false kz us out.toList → R (.done (.ret .none)) s') : wpAny (model prog w) A (ksk_tree a f false) R E s := by
  have sz : us.length ≤ sizeLine := by
    rw [sizeLine_eq]
    omega
  have bu := Heap.SameBut.update s.heap a (Obj.mapSeq fun _ => (#[] : Array Value))
  have h1 := get?_update_seq ha fun _ => (#[] : Array Value)
  have up : ∀ {b : Addr} {o : Obj}, (s.heap.update a (Obj.mapSeq fun _ => (#[] : Array Value))).get? b = some o → (((s.heap.update a (Obj.mapSeq fun _ => (#[] : Array Value))).push (seqObj "tuple" us.toArray 0)).push (seqObj "list" #[] 0)).get? b = some o :=
    fun q => Heap.get?_push_of_some _ (Heap.get?_push_of_some _ q)
  have far : a < ((s.heap.update a (Obj.mapSeq fun _ => (#[] : Array Value))).push (seqObj "tuple" us.toArray 0)).objs.size := by
    rw [size_push', Heap.size_update]
    exact Nat.lt_succ_of_lt (Heap.lt_size ha)
  unfold ksk_tree
  refine wpAny_bind (listItems_at ha rfl (wpAny_bind (listUpdate_at ha rfl (wpAny_bind (seqEpoch_at h1 rfl (wpAny_bind (wpAny_newTuple (wpAny_bind (wpAny_newList (wpAny_holding ?_) (Nat.zero_le _))) (by simpa using sz))))) (by simpa using sz) (Nat.zero_le _))))
  exact sk_loop hJ ⟨hJ s _ s.toks j fun b o hb q => up (below_same bu la b o hb q), Nat.ne_of_gt far, la, Nat.le_trans la (Nat.le_of_lt far), up h1, Heap.get?_push_size _ rfl⟩ hl hu turn k
/-- sorted(xs, key=f) -/
theorem sk_sorted {f : Value} {kw : List (Str × Value)} {l : Addr} {Q : Value → Shared → Prop} (hJ : JCl n0 J) (j : J s) (hl0 : s.heap.IsList l us.toArray) (hn : n0 ≤ s.heap.objs.size) (hl : kz.length = us.length) (hu : us.length < 64)
    (ha1 : argsOk "sorted" ⟨[.ref l], kw⟩) (ha2 : ∀ x, argsOk "list.sort" ⟨[.ref x], kw⟩) (ht : ∀ x, Builtin.«list.sort» ⟨[.ref x], kw⟩ = ksk_tree x f false) (turn : KeyTurn prog w A.in1.in1 n0 J f us kz)
    (k : ∀ D s' out n, n0 ≤ D → J s' → s'.heap.get? D = some (seqObj "list" out n) → KskOut false kz us out.toList → Q (.ref D) s') : wpAny (model prog w) A (call (.builtin "sorted") [.ref l] kw) Q E s := by
  have sz : us.length ≤ sizeLine := by
    rw [sizeLine_eq]
    omega
  refine call_function_entry_kw kind_sorted plain_sorted entry_sorted ha1 ?_
  unfold Builtin.«sorted»
  refine wpAny_bind (m := checkCount "sorted" 1 1 _) (wpAny_pure (wpAny_bind (collect_list hl0 (wpAny_bind (wpAny_newList ?_ sz)) sz)))
  generalize hG : (s.heap.push (seqObj "list" #[] 0)).update s.heap.objs.size (Obj.mapSeq (· ++ us.toArray)) = g
  have gz : g.objs.size = s.heap.objs.size + 1 := by
    rw [← hG, Heap.size_update, size_push']
  have gk : ∀ b o, s.heap.get? b = some o → g.get? b = some o := fun b o q => by
    have lt := Nat.ne_of_lt (Heap.lt_size q)
    rw [← hG, Heap.get?_update_ne _ _ _ _ lt, Heap.get?_push_ne _ _ _ lt]
    exact q
  have nD : n0 ≤ g.objs.size := by omega
  refine wpAny_bind (wpAny_holding (wpAny_call_entry_kw slot_list_sort ⟨_, Heap.get?_push_size g (o := seqObj "list" us.toArray 0) rfl, rfl⟩ entry_list_sort ?_ (ha2 _)))
  have run := sk_run (prog := prog) (w := w) (A := A.in1.in1) (E := E) (a := g.objs.size) (R := fun r s' => ∃ v, r = .done (.ret v) ∧ wpAny (model prog w) A.in1 (pure (PySem.Fin.done (.ret (.ref g.objs.size)))) (fun x y => ∃ v, x = .done (.ret v) ∧ Q v y) E s')
    (s := { s with heap := g.push (seqObj "list" us.toArray 0) }) (f := f) (n := 0) hJ (hJ s _ s.toks j fun b o _ q => Heap.get?_push_of_some _ (gk b o q)) (Heap.get?_push_size _ rfl) nD hl hu turn fun s' out n j' n' o' => ⟨_, rfl, wpAny_pure ⟨_, rfl, k _ s' out n nD j' n' o'⟩⟩
  rw [← ht] at run
  exact run
end
end KD

namespace KD
open PySem PySem.Spec PyProof.Rows L2
open Evl (Ex sq_of st_of fresh_back ex_l ex_t)
/-! ### sorted(xs, key=lambda y: ..), one name captured -/
theorem perm_lift {α β : Type} (f : α → β) : ∀ (l : List β) (T : List α), l.Perm (T.map f) → ∃ T' : List α, T'.Perm T ∧ T'.map f = l
  | [], T, h => by
    have e := h.length_eq
    cases T with
    | nil => exact ⟨[], .refl _, rfl⟩
    | cons t r => simp at e
  | x :: r, T, h => by
    have hx : x ∈ T.map f := h.mem_iff.mp (List.mem_cons_self ..)
    obtain ⟨t, ht, rfl⟩ := List.mem_map.mp hx
    obtain ⟨A, B, rfl⟩ := List.append_of_mem ht
    have h2 : (f t :: r).Perm (f t :: (A ++ B).map f) := by
      refine h.trans ?_
      rw [List.map_append, List.map_cons, List.map_append]
      exact List.perm_middle
    obtain ⟨T', p, e⟩ := perm_lift f r (A ++ B) ((List.perm_cons _).mp h2)
    refine ⟨t :: T', (p.cons t).trans List.perm_middle.symm, ?_⟩
    rw [List.map_cons, e]
/-- values, readings and data in step -/
structure Row3 where
  u : Value
  v : V
  d : PyData
theorem rows3 {K : PySem.W.Frag} {H : Hp} : ∀ {us : List Value} {vs : List V} {ds : List PyData}, Vals vs us → DpAll K H vs ds → ∃ T : List Row3, T.map Row3.u = us ∧ T.map Row3.v = vs ∧ T.map Row3.d = ds ∧ ∀ t ∈ T, RelV t.v t.u ∧ Dp K H t.v t.d
  | _, _, _, .nil, .nil => ⟨[], rfl, rfl, rfl, fun _ h => nomatch h⟩
  | _, _, _, .cons r rs, .cons h hs => by
    obtain ⟨T, e1, e2, e3, e4⟩ := rows3 rs hs
    refine ⟨⟨_, _, _⟩ :: T, by rw [List.map_cons, e1], by rw [List.map_cons, e2], by rw [List.map_cons, e3], fun t ht => ?_⟩
    rcases List.mem_cons.mp ht with rfl | ht
    · exact ⟨r, h⟩
    · exact e4 t ht
theorem rows3_vals {K : PySem.W.Frag} {H : Hp} : ∀ {T : List Row3}, (∀ t ∈ T, RelV t.v t.u ∧ Dp K H t.v t.d) → Vals (T.map Row3.v) (T.map Row3.u) ∧ DpAll K H (T.map Row3.v) (T.map Row3.d)
  | [], _ => ⟨.nil, .nil⟩
  | t :: T, h => by
    have h1 := h t (List.mem_cons_self ..)
    have h2 := rows3_vals fun u hu => h u (List.mem_cons_of_mem _ hu)
    exact ⟨.cons h1.1 h2.1, .cons h1.2 h2.2⟩
/-- the lambda's context -/
theorem cn_lam {P : Program} {w : World} {K : PySem.W.Frag} {mg : Str → Option Value} {base : Heap} {N ps fr : List Str} {F : NdefX.NF} {f : Addr} {A : Around} {outer : List Env} {s : Shared} {H : Hp} {E : XK} {k : Nat} (S : NdefX.NScope N ps fr F.scope) (hr : Room k (A.deeper (NdefX.envF F f s.heap.objs.size))) :
    Cn (NdefX.ncx C8.CX0 P w K mg base N F f A outer s H E).nox N F.scope k where
  hN := rfl
  vis := fun x h => h
  loc := fun x h => by
    rcases h with h | h
    · exact ⟨.inl h, .inr h⟩
    · exact absurd rfl (S.nocell _ (PySem.mem_of_lookup h))
  loc1 := fun x h => h
  cel := fun x h => h
  gl := fun x h => h
  cap := fun x h => h
  kind := S.kind
  calm := rfl
  nd := S.nd
  room := hr
  own := PassesOwn.never
section
variable {X : Cx} {N : List Str} {sc : Scope} {k : Nat} {σ : L2.St} {H : Hp} {pins : List (Addr × Obj)} {s : Shared}
/-- the lambda called, anywhere below -/
theorem lam_run {F : NdefX.NF} {f : Addr} {lb : Expr} {y z : Str} {j : Nat} {vz : V} {v : V} {u : Value} {g : Int} {pm ctv : Value} {A : Around} {s1 : Shared} (I : Inv X pins σ H s) (hs : ∀ b o, s.heap.get? b = some o → H b = none → b ∉ frs X.stack → s1.heap.get? b = some o) (I1 : Inv X pins σ H s1)
    (S : NdefX.NScope [y, z] [y] [z] F.scope) (hcl : NdefX.Caps X F.cl [z] [j]) (hz : σ[j]? = some (some vz)) (hA : A.frames = X.A.frames) (hr : Room 1 A)
    (hf : s.heap.get? f = some (PySem.W.kla_obj "<lambda>" F.qual F.params lb F.scope F.cl pm F.c ctv)) (hfn : H f = none) (hfr : f ∉ frs X.stack) (hc : H F.c = some (LamX.CodeO F.c F.qual))
    (hbind : bindArgs (PySem.W.kla_fn "<lambda>" F.qual F.params lb F.scope F.cl pm (.ref F.c) ctv) ⟨[u], []⟩ = pure [(y, u)]) (r : RelV v u)
    (hbody : ∀ X' : Cx, X'.K = X.K → Cn X' [y, z] F.scope 0 → run X' lb [some v, some vz] H fun x H' => x = .int g ∧ H' = H) :
    codeAny (model X.prog X.w) A (.call (.ref f) ⟨[u], []⟩) (CR C8.CX0 X.stack X.prog X.w H s1 (fun x H' => x = .int g ∧ H' = H) C8.E0) s1 := by
  have of1 := hs f _ hf hfn hfr
  have e0 : Env0 X.prog X.w X.K X.mg X.base A X.stack s1 H := ⟨hA.trans I1.env0.frames, I1.env0.mod, I1.env0.bs, I1.env0.bsz, I1.env0.funs, I1.env0.frf, I1.env0.hok, I1.env0.bare⟩
  have lim : s1.heap.NoLimit := I1.nolimit
  obtain ⟨⟨oc, vs, t, hoc, hdc, hvc⟩, _, _⟩ := I1.hok F.c _ hc
  refine PySem.W.kla_callFunE hr.depth of1 rfl S.co S.gen rfl ⟨F.c, oc, vs, t, rfl, hoc, hdc, hvc⟩ ?_
  rw [hbind]
  refine wpAny_pure (wpAny_newFunctionEnv S.nocell (fun ⟨n, _⟩ hy => S.par n (by
    have hy' := List.mem_singleton.mp hy
    cases hy'
    exact List.mem_cons_self ..)) (fun h₁ hns hsb => ⟨lim.fresh _ hsb, ?_⟩) S.kind)
  show codeAny _ _ (.expr lb (NdefX.envF F f s1.heap.objs.size)) _ _
  have older : ∀ b o, s1.heap.get? b = some o → h₁.get? b = some o := fun b o e => hsb.extBut b o (Nat.ne_of_lt (Heap.lt_size e)) (Heap.get?_push_of_some _ e)
  have hw : [j].map (NdefX.slotAt σ) = [some vz] := by
    show [NdefX.slotAt σ j] = [some vz]
    rw [NdefX.slotAt_of hz]
  have C := NdefX.cells_of I1 hcl
  rw [hw] at C
  have J : Inv (NdefX.ncx C8.CX0 X.prog X.w X.K X.mg X.base [y, z] F f A X.stack s1 H C8.E0) [] (NdefX.startF [y, z] [v] [some vz]) H { s1 with heap := h₁, toks := s1.toks + ([(y, u)] : List (Str × Value)).length } := NdefX.inv_startN S hr.hd e0 rfl (.cons r .nil) C hns older
  have hq := hbody (NdefX.ncx C8.CX0 X.prog X.w X.K X.mg X.base [y, z] F f A X.stack s1 H C8.E0).nox rfl (cn_lam S (hr.deeper _))
  have pq : PE (NdefX.ncx C8.CX0 X.prog X.w X.K X.mg X.base [y, z] F f A X.stack s1 H C8.E0) lb _ := (pe_run (X := (NdefX.ncx C8.CX0 X.prog X.w X.K X.mg X.base [y, z] F f A X.stack s1 H C8.E0).nox) lb).nox
  refine PySem.W.kla_codeExpr (wpAny_mono (pq.run [] _ _ H _ J hq) (fun v s' hq => ?_) fun e s' hq => hq)
  obtain ⟨x, Hx, Jx, rx, qx⟩ := hq
  exact ⟨x, Hx, Jx.os, Jx.bare, Jx.base, Jx.hok, rx, qx⟩
end
end KD

namespace KD
open PySem PySem.Spec PyProof.Rows L2
open Evl (Ex sq_of st_of fresh_back ex_l ex_t)
/-- the place below which all is kept while sorting -/
structure JS (X : Cx) (H : Hp) (s s' : Shared) : Prop where
  os : s'.os = s.os
  bare : AllBare s'.gens
  un : Un (frs X.stack) [] H H s.heap s'.heap
  hok : HOk X.prog X.w H s'.heap
section
variable {X : Cx} {N : List Str} {sc : Scope} {k : Nat} {σ : L2.St} {H : Hp} {pins : List (Addr × Obj)} {s : Shared}
theorem js_cl (I : Inv X pins σ H s) : JCl s.heap.objs.size (JS X H s) := fun s' h' tk j kp => by
  have ltH : ∀ b u, H b = some u → b < s.heap.objs.size := fun b u e => I.hok.lt e
  refine ⟨j.os, j.bare, ⟨fun b o e n hb hx => kp b o (Heap.lt_size e) (j.un.keep b o e n hb hx), fun b o e n hb hx => ?_, fun b o e n hx => n, fun b o e hx => ?_, fun b xs q => q, fun b o u q => q, fun b ps q => ⟨#[], by rw [q]; simp⟩⟩, fun b u e => ?_⟩
  · obtain ⟨sl, e1⟩ := j.un.slot b o e n hb hx
    exact ⟨sl, kp b _ (Heap.lt_size e) e1⟩
  · obtain ⟨o', e1⟩ := j.un.there b o e hx
    exact ⟨o', kp b _ (Heap.lt_size e) e1⟩
  · refine (j.hok b u e).stay (fun c v hc q => kp c v ?_ q) (fun _ q => q) fun _ _ q => q
    rcases hc with z | z
    · rw [z]; exact ltH b u e
    · exact ltH c _ z
theorem js_inv (I : Inv X pins σ H s) {s' : Shared} (j : JS X H s s') : Inv X pins σ H s' := I.call' (ch := []) j.os j.un j.hok j.bare fun b z => absurd z (by simp)
/-- sorted(xs, key=lambda y: ..): z captured -/
theorem rn_sortK [C : Cn X N sc k] [B : Bl X.mg] {T : List (Addr × Str)} {c P : Addr} {e : Expr} {ds : List PyData} {params : Arguments} {lb : Expr} {scope : Scope} {p pos lpos kpos : Pos} {y z : Str} {vz : V} {Q : VK} (j : Nat) (gk : PyData → Int) (ha : ED X e σ H (.list ds))
    (TB : LamX.TabB X.base X.mg c P) (hcode : X.env.code = .ref c) (hm : (P, X.env.qual ++ "<lambda>") ∈ T) (hu : ∀ p ∈ T, p.1 = P → p.2 = X.env.qual ++ "<lambda>") (hT : LamX.Tabs T H)
    (hv : σ[j]? = some (some vz)) (hlen : ds.length < 64) (hk : 3 ≤ k)
    (hbody : ∀ (X' : Cx) (H' : Hp) (v : V) (d : PyData), X'.K = X.K → Cn X' [y, z] scope 0 → d ∈ ds → Dp X.K H' v d → run X' lb [some v, some vz] H' fun x H2 => x = .int (gk d) ∧ H2 = H')
    (hq : ∀ (ds' : List PyData) (p : Addr) (xs : List V) (H2 : Hp), ds'.Perm ds → ds'.Pairwise (fun a b => gk a ≤ gk b) → LamX.ExtN H H2 → LamX.Tabs T H2 → H2 p = some (.lst xs) → DpAll X.K H2 xs ds' → Q (.ref p) H2)
    (hs : glB sc "sorted" = true := by decide +kernel) (he : starEach [e] X.env = [(false, eval e X.env)] := by rfl)
    (hN : N[j]? = some z := by rfl) (hcap : decide (sc.names.lookup z = some .cell) = true := by decide +kernel) (S : NdefX.nscB [y, z] [y] [z] scope = true := by decide +kernel)
    (hdef : defaultsOf params X.env = ([], []) := by rfl) (hbind : ∀ (q : Str) (cl : List (Str × Addr)) (pm cv ctv u : Value), bindArgs (PySem.W.kla_fn "<lambda>" q params lb scope cl pm cv ctv) ⟨[u], []⟩ = pure [(y, u)] := by intro _ _ _ _ _ _; rfl)
    (hnoN : ∀ d ∈ ds, ∀ (H1 H2 : Hp) (v : V), LamX.ExtN H1 H2 → Dp X.K H1 v d → Dp X.K H2 v d) :
    run X (.Call (.Name "sorted" p) [e] [⟨some "key", .Lambda params lb scope lpos, kpos⟩] pos) σ H Q := by
  refine ⟨fun pins s I => ?_⟩
  have S' := NdefX.nscope_by S
  refine wpAny_Call_Name_kw (ld_blt I (C.gl _ (glB_of hs).1) B.sorted boot_sorted ?_ (glB_of hs).2.2 (glB_of hs).2.1)
  refine PyProof.Rows.callWith_kw (thn ((pa_run (X := X) [e]).run pos pins s σ H (fun vs H1 => Ex H H1 ∧ DpAll X.K H1 vs [.list ds]) I ((ea_cons ha ea_nil he).go fun vs H1 q hd => ⟨q, hd⟩)) fun us s1 ⟨vs, H1, I1, r1, q1⟩ => ?_) (by rw [he]; rfl) (by rw [he]; rfl) (by rfl) (by rfl)
  obtain ⟨qE, dvs⟩ := q1
  obtain ⟨v0, rfl, d0⟩ := dpa1 dvs
  obtain ⟨a0, xs0, rfl, hx0, hda0⟩ := dp_lst d0
  obtain rfl := Vals.ref1 r1
  have hT1 : LamX.Tabs T H1 := hT.ext qE
  have hfree : ∀ w ∈ scope.names, w.2 = .free → X.env.scope.names.lookup w.1 = some .cell ∨ X.env.scope.names.lookup w.1 = some .free := fun w hw e2 => by
    have h1 := List.mem_singleton.mp (S'.free w hw e2)
    rw [h1]
    exact .inl (C.cel z (of_decide_eq_true hcap))
  show wpAny _ _ (evalAll ((do let v ← eval (.Lambda params lb scope lpos) X.env; standAt pos; pure v) :: [])) _ _ s1
  refine wpAny_evalAll_cons (wpAny_bind (LamX.lam_make2 I1 TB hcode hm hu hT1 hdef (fun w hw e2 => (hfree w hw e2).elim (fun h => I1.ok.has _ (.inl h)) fun h => I1.ok.has _ (.inr h)) fun f c' pm ctv H2 s2 I2 eN T2 hf hfn hfr hco => wpAny_bind (wpAny_standAt (wpAny_pure (wpAny_evalAll_nil ?_)))))
  have hda2 : DpAll X.K H2 xs0 ds := by
    have h : ∀ {vs : List V} {l : List PyData}, (∀ d ∈ l, d ∈ ds) → DpAll X.K H1 vs l → DpAll X.K H2 vs l := by
      intro vs l
      induction l generalizing vs with
      | nil => intro _ h; cases h; exact .nil
      | cons d r ih =>
        intro hd h
        cases h with
        | cons a b => exact .cons (hnoN d (hd d (List.mem_cons_self ..)) H1 H2 _ eN a) (ih (fun d' h' => hd d' (List.mem_cons_of_mem _ h')) b)
    exact h (fun _ h => h) hda0
  have hx2 : SqL X.K H2 a0 xs0 := by
    rcases hx0 with (r | ⟨o, r⟩) | r
    · exact .inl (.inl (eN _ _ r fun ps z => by cases z))
    · exact .inl (.inr ⟨o, eN _ _ r fun ps z => by cases z⟩)
    · exact .inr r
  obtain ⟨its, rv, hl, hz⟩ := I2.list hx2
  obtain ⟨R, e1, e2, e3, eR⟩ := rows3 rv hda2
  have hRl : R.length = ds.length := by rw [← e3, List.length_map]
  have hil : its.length = R.length := by rw [← e1, List.length_map]
  let F : NdefX.NF := ⟨"<lambda>", X.env.qual ++ "<lambda>", params, [], scope, cloFrom X.env.cells scope.names [], c'⟩
  have hcaps : NdefX.Caps X F.cl [z] [j] := NdefX.Caps.made I2.ok hfree (fun w hw => PySem.mem_of_lookup (S'.frk w hw)) (by
    show [X.N[j]?] = [some z]
    rw [C.at_ hN])
  have key : (Str.ofString "key", Value.ref f) = (Str.ofString "key", Value.ref f) := rfl
  refine sk_sorted (kz := R.map fun t => gk t.d) (us := its) (n0 := s2.heap.objs.size) (J := JS X H2 s2) (js_cl I2) ⟨rfl, I2.bare, Un.refl, I2.hok⟩ hl.isList (Nat.le_refl _) (by rw [List.length_map, hil]) (by omega) (ksk_s1 _ _) (fun x => ksk_l1 _ _) (fun x => ksk_t1 f x)
    (fun i u kk hu hk' s3 j3 => ?_) fun D s3 out cc hD j3 hD3 ho => ?_
  · have I3 := js_inv I2 j3
    obtain ⟨t, ht, rfl, rfl⟩ : ∃ t ∈ R, t.u = u ∧ gk t.d = kk := by
      rw [← e1, List.getElem?_map] at hu
      rw [List.getElem?_map] at hk'
      cases e4 : R[i]? with
      | none => rw [e4] at hu; cases hu
      | some t =>
        rw [e4] at hu hk'
        exact ⟨t, List.mem_of_getElem? e4, Option.some.inj hu, Option.some.inj hk'⟩
    have htd : t.d ∈ ds := by rw [← e3]; exact List.mem_map.mpr ⟨t, ht, rfl⟩
    have hRm : Room 1 X.A.in1.in1 := ((C.room.mono hk).in1).in1
    have run1 := lam_run (F := F) (f := f) (lb := lb) (y := y) (z := z) (j := j) (vz := vz) (v := t.v) (u := t.u) (g := gk t.d) (pm := pm) (ctv := ctv) (A := X.A.in1.in1) I2 (fun b o e n nf => j3.un.keep b o e n nf (by simp)) I3 S' hcaps hv rfl hRm hf hfn hfr hco (hbind _ _ _ _ _ _) (eR t ht).1 fun X' hK' C' => hbody X' H2 t.v t.d hK' C' htd (eR t ht).2
    refine wpAny_call (codeAny_mono run1 fun r s4 hq => ?_)
    cases r with
    | error e => exact (show False from hq).elim
    | ok fl =>
      cases fl with
      | next => exact False.elim hq
      | brk => exact False.elim hq
      | cont => exact False.elim hq
      | ret u =>
        obtain ⟨v, H', os, bare, un, hok', rv', rfl, rfl⟩ := hq
        obtain ⟨tk, rfl⟩ := rv'
        refine ⟨⟨os.trans j3.os, bare, j3.un.trans un, hok'⟩, ⟨tk, rfl⟩, fun b o hb e => un.keep b o e (I2.hok.fresh hb) (fun z => ?_) (by simp)⟩
        have hlt : b < s2.heap.objs.size := by
          rcases List.mem_cons.mp (I2.stkSub b z) with e | hb
          · rw [e]; exact I2.lt
          · obtain ⟨_, o, ho, _⟩ := I2.ok.funs.mem hb
            exact Nat.lt_of_lt_of_le (Heap.lt_size ho) I2.sz
        exact absurd hb (Nat.not_le.mpr hlt)
  · obtain ⟨ps, hp, ho, hs'⟩ := ho
    have ez : (R.map fun t => gk t.d).zip its = R.map fun t => (gk t.d, t.u) := by
      rw [← e1, List.zip_map']
    rw [ez] at hp
    obtain ⟨R', pR, eR'⟩ := perm_lift (fun t : Row3 => (gk t.d, t.u)) ps R hp
    have hR' : ∀ t ∈ R', RelV t.v t.u ∧ Dp X.K H2 t.v t.d := fun t ht => eR t (pR.mem_iff.mp ht)
    obtain ⟨v1, v2⟩ := rows3_vals hR'
    have eo : out.toList = R'.map Row3.u := by
      rw [ho, ← eR', List.map_map]
      rfl
    have nD : H2 D = none := I2.hok.fresh hD
    have hlen' : (R'.map Row3.v).length ≤ sizeLine := Evl.sz_of (by rw [List.length_map, pR.length_eq, hRl]; omega)
    have I4 : Inv X pins σ (upd H2 D (.lst (R'.map Row3.v))) s3 := I2.call' (ch := []) j3.os ⟨fun b o e n hb hx => j3.un.keep b o e n hb hx, fun b o e n hb hx => j3.un.slot b o e n hb hx, fun b o e n hx => by rw [upd_ne (Nat.ne_of_lt (Nat.lt_of_lt_of_le (Heap.lt_size e) hD))]; exact n, fun b o e hx => j3.un.there b o e hx,
        fun b xs e => by rw [upd_ne (ne_of_none e nD)]; exact e, fun b o u e => by rw [upd_ne (ne_of_none e nD)]; exact e, fun b ps e => ⟨#[], by rw [upd_ne (ne_of_none e nD), e]; simp⟩⟩ (fun b u e => by
        by_cases hb : b = D
        · subst hb
          rw [upd_same] at e
          cases e
          refine ⟨hlen', R'.map Row3.u, cc, v1, ?_⟩
          rw [hD3, ← eo]
        · rw [upd_ne hb] at e
          exact (j3.hok b u e).stay (fun c v hc q => q) (fun d q => by rw [upd_ne (ne_of_none q nD)]; exact q) fun d xs q => by rw [upd_ne (ne_of_none q nD)]; exact q) j3.bare fun b z => absurd z (by simp)
    have qN : Ex H2 (upd H2 D (.lst (R'.map Row3.v))) := Evl.Ex.new nD
    have pd : (R'.map Row3.d).Perm ds := by
      rw [← e3]
      exact pR.map _
    refine ⟨.ref D, _, I4, rfl, hq (R'.map Row3.d) D (R'.map Row3.v) _ pd ?_ ((LamX.ExtN.of qE).trans (eN.trans (LamX.ExtN.of qN))) (T2.ext qN) upd_same (qN.dpa v2)⟩
    rw [← eR', List.pairwise_map] at hs'
    rw [List.pairwise_map]
    exact hs'.imp fun h => h
end
end KD

namespace KD
open PySem PySem.Spec PyProof.Rows L2
open Evl (Ex sq_of st_of fresh_back ex_l ex_t)
/-! ### a def, its code told; the dice -/
theorem def_okG {P : Program} {w : World} {K : PySem.W.Frag} {mg : Str → Option Value} {base : Heap} {x : Str} {st : Stmt} {f : Addr} {fd : FuncData} {N ps : List Str} {k : Nat} {sp : Sp} (D : C8.Def K mg x st f fd) (b : Binds K fd ps []) (hS : C8.scC N ps (C8.fnScope st) = true) (hl : ∀ vs H Q E, sp vs H Q E → vs.length = ps.length)
    (body : ∀ (X : Cx), X.prog = P → X.w = w → X.K = K → X.mg = mg → X.base = base → X.env.code = fd.code → X.env.qual = x ++ ".<locals>." → Cn X N (C8.fnScope st) k → ∀ (H : Hp) (vs : List V) (Q : VK) (E : XK), sp vs H Q E → runB X (C8.fnBody st) { nx := fun _ H' => Q .non H', rt := Q } (L2.start N vs) H) :
    C8.Cal P w K mg base (k + 1) x sp [] := by
  refine ⟨f, fd, ps, [], ?_, D.mgf, D.kp, b, .nil⟩
  obtain ⟨oc, od, dV, kV, doc, pm, an, cdv, ct, osl, rfl, lk, hcd⟩ := D.fn.ex
  refine fn_of lk hcd (C8.fnScope_by hS) hl fun A outer s H vs Q E hr hsp => ?_
  exact ⟨runB _ _, (pb_run (X := (cxOf C8.CX0 P w K mg base N x (C8.fnScope st) f cdv A outer s H E).nox) _).nox, body _ rfl rfl rfl rfl rfl rfl rfl (cn_def (C8.fnScope_by hS) hr) H vs Q E hsp⟩
def Dice (H : Hp) (r : Addr) : Prop := ∃ a b c : Int, H r = some (.lst [.int a, .int b, .int c])
/-- what a draw may change: the dice, the tables -/
structure Mv (T : List (Addr × Str)) (r : Addr) (H H' : Hp) : Prop where
  keep : ∀ b o, b ≠ r → H b = some o → (∀ ps, o ≠ .tbl ps) → H' b = some o
  dice : Dice H r → Dice H' r
  tab : LamX.Tabs T H → LamX.Tabs T H'
section
variable {T : List (Addr × Str)} {r : Addr} {H H' H1 H2 : Hp}
theorem Mv.refl : Mv T r H H := ⟨fun _ _ _ h _ => h, id, id⟩
theorem Mv.trans (a : Mv T r H H1) (b : Mv T r H1 H2) : Mv T r H H2 := ⟨fun c o n e t => b.keep c o n (a.keep c o n e t) t, fun h => b.dice (a.dice h), fun h => b.tab (a.tab h)⟩
theorem Dice.ex (d : Dice H r) (e : Ex H H') : Dice H' r := let ⟨a, b, c, h⟩ := d; ⟨a, b, c, e _ _ h⟩
theorem Mv.ex (e : Ex H H') : Mv T r H H' := ⟨fun b o _ h _ => e b o h, fun d => d.ex e, fun t => t.ext e⟩
theorem Mv.exN (e : LamX.ExtN H H') (t : LamX.Tabs T H') : Mv T r H H' := ⟨fun b o _ h n => e b o h n, fun ⟨a, b, c, h⟩ => ⟨a, b, c, e _ _ h fun ps z => by cases z⟩, fun _ => t⟩
theorem Mv.t (m : Mv T r H H') (d : Dice H r) : ExT H H' := fun a xs h => by
  obtain ⟨i, j, k, hr⟩ := d
  have ne : a ≠ r := fun z => by
    subst z
    rcases h with h | ⟨u, h⟩
    · rw [hr] at h; cases h
    · rw [hr] at h; cases h
  rcases h with h | ⟨u, h⟩
  · exact .inl (m.keep a _ ne h fun ps z => by cases z)
  · exact .inr ⟨u, m.keep a _ ne h fun ps z => by cases z⟩
theorem _root_.LamX.ExtN.t (e : LamX.ExtN H H') : ExT H H' := fun a xs h => by
  rcases h with h | ⟨u, h⟩
  · exact .inl (e a _ h fun ps z => by cases z)
  · exact .inr ⟨u, e a _ h fun ps z => by cases z⟩
end
mutual
theorem dp_exN {K : PySem.W.Frag} {H H' : Hp} (e : LamX.ExtN H H') : ∀ (d : PyData) (v : V), Dp K H v d → Dp K H' v d
  | .none, _, h => by cases h; exact .non
  | .bool b, _, h => by cases h; exact .bl b
  | .int i, _, h => by cases h; exact .int i
  | .str x, _, h => by cases h; exact .str x
  | .list ds, _, h => by
    cases h with
    | lst hs ha =>
      refine .lst ?_ (dpa_exN e ds _ ha)
      rcases hs with (r | ⟨o, r⟩) | r
      · exact .inl (.inl (e _ _ r fun ps z => by cases z))
      · exact .inl (.inr ⟨o, e _ _ r fun ps z => by cases z⟩)
      · exact .inr r
  | .tuple ds, _, h => by
    cases h with
    | tup hs ha => exact .tup (sqt_exT e.t hs) (dpa_exN e ds _ ha)
  | .dict _, _, h => by cases h
theorem dpa_exN {K : PySem.W.Frag} {H H' : Hp} (e : LamX.ExtN H H') : ∀ (ds : List PyData) (vs : List V), DpAll K H vs ds → DpAll K H' vs ds
  | [], _, h => by cases h; exact .nil
  | d :: ds, _, h => by
    cases h with
    | cons h1 h2 => exact .cons (dp_exN e d _ h1) (dpa_exN e ds _ h2)
end
/-- a promise of a def that draws: the dice first -/
def spM (T : List (Addr × Str)) (K : PySem.W.Frag) (Pre : List PyData → Prop) (Post : List PyData → PyData → Prop) : Sp := fun vs H Q _ => ∃ r rest ds, vs = .ref r :: rest ∧ Dice H r ∧ LamX.Tabs T H ∧ DpAll K H rest ds ∧ Pre ds ∧ ∀ d v H', Post ds d → Mv T r H H' → Dp K H' v d → Q v H'
/-- .. of one that makes a lambda -/
def spT (T : List (Addr × Str)) (K : PySem.W.Frag) (F : List PyData → PyData → Prop) : Sp := fun vs H Q _ => ∃ ds d, DpAll K H vs ds ∧ F ds d ∧ LamX.Tabs T H ∧ ∀ v H', LamX.ExtN H H' → LamX.Tabs T H' → Dp K H' v d → Q v H'
section
variable {X : Cx} {N : List Str} {sc : Scope} {k : Nat} {σ : L2.St} {H : Hp} {e a b : Expr} {es : List Expr} {d : PyData} {ds : List PyData} {x y : Str} {pos p py : Pos} {T : List (Addr × Str)}
theorem ea1_of {Q : List V → Hp → Prop} {r : Addr} {v : V} [C : Cn X N sc k] (i : Nat) (hv : σ[i]? = some (some v)) (ha : runA X es σ H fun vs H1 => Q (v :: vs) H1) (hN : N[i]? = some y := by rfl) (hs : visB sc y = true := by decide +kernel) (he : starEach (.Name y py :: es) X.env = (false, eval (.Name y py) X.env) :: starEach es X.env := by rfl) : runA X (.Name y py :: es) σ H Q :=
  of_pa (pa_cons (pe_run _) (pa_run es) he) (K9.rn_var i hv ha hN hs)
/-- x(dice, ..) -/
theorem rn_callM [C : Cn X N sc k] {j : Nat} {Pre : List PyData → Prop} {Post : List PyData → PyData → Prop} {r : Addr} {Q : VK} (c : C8.Cal X.prog X.w X.K X.mg X.base j x (spM T X.K Pre Post) []) (i : Nat) (hv : σ[i]? = some (some (.ref r))) (hd : Dice H r) (hT : LamX.Tabs T H) (ha : EA X es σ H ds) (pre : Pre ds)
    (q : ∀ d v H', Post ds d → Mv T r H H' → Dp X.K H' v d → Q v H') (hk : j ≤ k := by decide) (hs : glB sc x = true := by decide +kernel) (hN : N[i]? = some y := by rfl) (hs2 : visB sc y = true := by decide +kernel)
    (he : starEach (.Name y py :: es) X.env = (false, eval (.Name y py) X.env) :: starEach es X.env := by rfl) (hpl : (backTo pos (starEach es X.env)).any (·.1) = false := by rfl) : run X (.Call (.Name x p) (.Name y py :: es) [] pos) σ H Q :=
  of_pe (C8.pe_c c C.room hk (C.gl x (glB_of hs).1) (pa_run _) (glB_of hs).2.1 he hpl) (ea1_of (r := r) i hv (ha.go fun vs H1 q1 dvs => by
    show spM T X.K Pre Post ((.ref r :: vs) ++ []) H1 Q _
    rw [List.append_nil]
    exact ⟨r, vs, ds, rfl, hd.ex q1, hT.ext q1, dvs, pre, fun d v H' h m dv => q d v H' h ((Mv.ex q1).trans m) dv⟩) hN hs2 he)
theorem rn_callT [C : Cn X N sc k] {j : Nat} {F : List PyData → PyData → Prop} {Q : VK} (c : C8.Cal X.prog X.w X.K X.mg X.base j x (spT T X.K F) []) (ha : EA X (e :: es) σ H ds) (hF : F ds d) (hT : LamX.Tabs T H)
    (q : ∀ v H', LamX.ExtN H H' → LamX.Tabs T H' → Dp X.K H' v d → Q v H') (hk : j ≤ k := by decide) (hs : glB sc x = true := by decide +kernel)
    (he : starEach (e :: es) X.env = (false, eval e X.env) :: starEach es X.env := by rfl) (hpl : (backTo pos (starEach es X.env)).any (·.1) = false := by rfl) : run X (.Call (.Name x p) (e :: es) [] pos) σ H Q :=
  of_pe (C8.pe_c c C.room hk (C.gl x (glB_of hs).1) (pa_run _) (glB_of hs).2.1 he hpl) (ha.go fun vs H1 q1 dvs => by
    show spT T X.K F (vs ++ []) H1 Q _
    rw [List.append_nil]
    exact ⟨ds, d, dvs, hF, hT.ext q1, fun v H' e t dv => q v H' ((LamX.ExtN.of q1).trans e) t dv⟩)
/-- statements by a reading -/
theorem st_asgR [C : Cn X N sc k] {En : Ends} (i : Nat) (h : run X e σ H fun v H1 => En.nx (σ.set i (some v)) H1) (hN : N[i]? = some x := by rfl) (hl : locB sc x = true := by decide +kernel) (hs : swapsWith e (some (.Name x p)) pos.line X.env = pure false := by rfl) : runS X (.Assign [.Name x p] e pos) En σ H :=
  of_ps (ps_set C.nd' (C.at_ hN) (C.loc x (locB_of hl)).1 (pe_run e) hs (C.loc x (locB_of hl)).2) h
theorem st_retR {En : Ends} (h : run X e σ H En.rt) : runS X (.Return (some e) pos) En σ H := of_ps (ps_ret (pe_run e)) h
theorem st_exprR {En : Ends} (h : run X e σ H fun _ H1 => En.nx σ H1) (hs : swapsWith e none pos.line X.env = pure false := by rfl) : runS X (.Expr e pos) En σ H := of_ps (ps_expr (pe_run e) hs) h
end
end KD

namespace K9
open PySem PySem.Spec PyProof.Rows L2 KD
open Evl (Ex sq_of st_of fresh_back ex_l ex_t)
/-! ### the law's own fractions -/
def addQ (q u : Int × Int) : Int × Int := low (q.1 * u.2 + u.1 * q.2) (q.2 * u.2)
def mulQ (q u : Int × Int) : Int × Int := low (q.1 * u.1) (q.2 * u.2)
def resQ (q : Int × Int) : Int × Int := low (q.1 % q.2) q.2
/-- a fraction of bounded size -/
def Ok2 (n : Nat) (q : Int × Int) : Prop := 0 ≤ q.1 ∧ 0 < q.2 ∧ Sm n q.1 ∧ Sm n q.2
theorem Ok1.ok2 {q : Int × Int} (h : Ok1 q) : Ok2 200 q := ⟨h.1, h.2.1, sm_great h.1 h.2.2.1, sm_great (by have := h.2.1; omega) h.2.2.2⟩
section
variable {P : Program} {w : World} {K : PySem.W.Frag} {mg : Str → Option Value} {base : Heap} {f : Addr} {fd : FuncData}
theorem ok_fq_low [B : Bl mg] (D : C8.Def K mg "_law_fq_low" (topS 44) f fd) (b : Binds K fd ["_law_top", "_law_bottom"] []) : C8.Cal P w K mg base 1 "_law_fq_low" (spD K FLowest) [] := by
  refine def_ok (N := ["_law_top", "_law_bottom", "_law_one", "_law_other"]) D b (by decide +kernel) (fun ds d h => by obtain ⟨a, b, rfl, _⟩ := h; rfl) ?_
  rintro X rfl rfl rfl rfl rfl C H vs ds d En hv hF q qn
  obtain ⟨t, b, rfl, hb, hs, rfl⟩ := hF
  obtain ⟨v1, v2, rfl, d1, d2⟩ := dpa2 hv
  have hg := gcdI_pos (a := (t.natAbs : Int)) hb
  have hW : Sm 4000 (gcdI (t.natAbs : Int) b) := Sm.le (by omega) (gcdI_le hb) hs
  cases d1
  cases d2
  refine sb_cons (st_par 2 3 (ed_abs (ed_var 0 rfl (.int t))) (ed_var 1 rfl (.int b)) fun v3 v4 H1 q1 d3 d4 => ?_)
  rw [abs_eq] at d3
  cases d3
  cases d4
  refine sb_cons (st_while (fun m σ H' => ∃ x y : Int, σ = [some (.int t), some (.int b), some (.int x), some (.int y)] ∧ 0 ≤ x ∧ 0 ≤ y ∧ gcdI x y = gcdI (t.natAbs : Int) b ∧ m = y.toNat ∧ Ex H H') b.toNat ⟨_, b, rfl, by omega, by omega, rfl, rfl, q1⟩ fun m σ H' hW' => ?_)
  obtain ⟨x, y, rfl, hx, hy, hgc, rfl, hE⟩ := hW'
  refine ⟨_, et_cmp od_gt (ed_var 3 rfl (.int y)) ed_int, fun ht H1 q1 => ?_, fun ht H1 q1 => ?_⟩
  · have hp : 0 < y := of_decide_eq_true ht
    refine ⟨fun σ2 H2 => ∃ x2 y2 : Int, σ2 = [some (.int t), some (.int b), some (.int x2), some (.int y2)] ∧ 0 ≤ x2 ∧ 0 ≤ y2 ∧ gcdI x2 y2 = gcdI (t.natAbs : Int) b ∧ y2 < y ∧ Ex H H2, fun σ2 H2 h => ?_, ?_⟩
    · obtain ⟨x2, y2, e, h1, h2, h3, h4, h5⟩ := h
      exact ⟨y2.toNat, by omega, x2, y2, e, h1, h2, h3, rfl, h5⟩
    · refine sb_one (st_par 2 3 (ed_var 3 rfl (.int y)) (ed_bin (od_mod hp) (ed_var 2 rfl (.int x)) (ed_var 3 rfl (.int y))) fun v1 v2 H2 q2 e1 e2 => ?_)
      cases e1
      cases e2
      exact ⟨y, x % y, rfl, hy, Int.emod_nonneg _ (by omega), (gcdI_step hx hp).trans hgc, Int.emod_lt_of_pos _ hp, (hE.trans q1).trans q2⟩
  · have hp : y = 0 := by have := of_decide_eq_false ht; omega
    subst hp
    rw [gcdI_zero hx] at hgc
    subst hgc
    exact sb_one (st_ret (ed_tup (ea_cons (ed_bin (od_div (hW.divW hg)) (ed_var 0 rfl (.int t)) (ed_var 2 rfl (.int _))) (ea_cons (ed_bin (od_div (hW.divW hg)) (ed_var 1 rfl (.int b)) (ed_var 2 rfl (.int _))) ea_nil))) fun v H2 q2 dv => q v H2 ((hE.trans q1).trans q2) dv)
def FAdd (ds : List PyData) (d : PyData) : Prop := ∃ q u : Int × Int, ds = [fr q, fr u] ∧ Ok2 1000 q ∧ Ok2 1000 u ∧ d = fr (addQ q u)
theorem ok_fq_sum [B : Bl mg] (D : C8.Def K mg "_law_fq_sum" (topS 45) f fd) (b : Binds K fd ["_law_one", "_law_other"] []) (c1 : C8.Cal P w K mg base 1 "_law_fq_low" (spD K FLowest) []) : C8.Cal P w K mg base 2 "_law_fq_sum" (spD K FAdd) [] := by
  refine def_ok (N := ["_law_one", "_law_other"]) D b (by decide +kernel) (fun ds d h => by obtain ⟨a, b, rfl, _⟩ := h; rfl) ?_
  rintro X rfl rfl rfl rfl rfl C H vs ds d En hv hF q qn
  obtain ⟨o, u, rfl, ho, hu, rfl⟩ := hF
  obtain ⟨v1, v2, rfl, d1, d2⟩ := dpa2 hv
  refine sb_one (st_ret (ed_call c1 (ea_cons (ed_bin od_add (ed_bin (od_mul (ho.2.2.1.mulW hu.2.2.2)) (ed_ixT (ed_var 0 rfl d1) ed_int rfl) (ed_ixT (ed_var 1 rfl d2) ed_int rfl)) (ed_bin (od_mul (hu.2.2.1.mulW ho.2.2.2)) (ed_ixT (ed_var 1 rfl d2) ed_int rfl) (ed_ixT (ed_var 0 rfl d1) ed_int rfl)))
    (ea_cons (ed_bin (od_mul (ho.2.2.2.mulW hu.2.2.2)) (ed_ixT (ed_var 0 rfl d1) ed_int rfl) (ed_ixT (ed_var 1 rfl d2) ed_int rfl)) ea_nil)) ⟨_, _, rfl, Int.mul_pos ho.2.1 hu.2.1, (ho.2.2.2.mul hu.2.2.2).mono (by decide), rfl⟩) q)
def FMul (ds : List PyData) (d : PyData) : Prop := ∃ q u : Int × Int, ds = [fr q, fr u] ∧ Ok2 1000 q ∧ Ok2 1000 u ∧ d = fr (mulQ q u)
theorem ok_fq_times [B : Bl mg] (D : C8.Def K mg "_law_fq_times" (topS 46) f fd) (b : Binds K fd ["_law_one", "_law_other"] []) (c1 : C8.Cal P w K mg base 1 "_law_fq_low" (spD K FLowest) []) : C8.Cal P w K mg base 2 "_law_fq_times" (spD K FMul) [] := by
  refine def_ok (N := ["_law_one", "_law_other"]) D b (by decide +kernel) (fun ds d h => by obtain ⟨a, b, rfl, _⟩ := h; rfl) ?_
  rintro X rfl rfl rfl rfl rfl C H vs ds d En hv hF q qn
  obtain ⟨o, u, rfl, ho, hu, rfl⟩ := hF
  obtain ⟨v1, v2, rfl, d1, d2⟩ := dpa2 hv
  exact sb_one (st_ret (ed_call c1 (ea_cons (ed_bin (od_mul (ho.2.2.1.mulW hu.2.2.1)) (ed_ixT (ed_var 0 rfl d1) ed_int rfl) (ed_ixT (ed_var 1 rfl d2) ed_int rfl))
    (ea_cons (ed_bin (od_mul (ho.2.2.2.mulW hu.2.2.2)) (ed_ixT (ed_var 0 rfl d1) ed_int rfl) (ed_ixT (ed_var 1 rfl d2) ed_int rfl)) ea_nil)) ⟨_, _, rfl, Int.mul_pos ho.2.1 hu.2.1, (ho.2.2.2.mul hu.2.2.2).mono (by decide), rfl⟩) q)
def leQ (q u : Int × Int) : Bool := decide (q.1 * u.2 ≤ u.1 * q.2)
def FMost (ds : List PyData) (d : PyData) : Prop := ∃ q u : Int × Int, ds = [fr q, fr u] ∧ Ok2 1000 q ∧ Ok2 1000 u ∧ d = .bool (leQ q u)
theorem ok_fq_is_most [B : Bl mg] (D : C8.Def K mg "_law_fq_is_most" (topS 47) f fd) (b : Binds K fd ["_law_one", "_law_other"] []) : C8.Cal P w K mg base 1 "_law_fq_is_most" (spD K FMost) [] := by
  refine def_ok (N := ["_law_one", "_law_other"]) D b (by decide +kernel) (fun ds d h => by obtain ⟨a, b, rfl, _⟩ := h; rfl) ?_
  rintro X rfl rfl rfl rfl rfl C H vs ds d En hv hF q qn
  obtain ⟨o, u, rfl, ho, hu, rfl⟩ := hF
  obtain ⟨v1, v2, rfl, d1, d2⟩ := dpa2 hv
  exact sb_one (st_ret (ed_cmp od_le (ed_bin (od_mul (ho.2.2.1.mulW hu.2.2.2)) (ed_ixT (ed_var 0 rfl d1) ed_int rfl) (ed_ixT (ed_var 1 rfl d2) ed_int rfl)) (ed_bin (od_mul (hu.2.2.1.mulW ho.2.2.2)) (ed_ixT (ed_var 1 rfl d2) ed_int rfl) (ed_ixT (ed_var 0 rfl d1) ed_int rfl))) q)
theorem rds_map (r : List (Int × Int)) (g : Int × Int → Int × Int) (wf : PyData → PyData) (h : ∀ q, wf (fr q) = fr (g q)) : (r.map fr).map wf = (r.map g).map fr := by
  rw [List.map_map, List.map_map]
  exact List.map_congr_left fun q _ => h q
def onQ (g : Int × Int → PyData) : PyData → PyData
  | .tuple [.int a, .int b] => g (a, b)
  | _ => .none
def FLater (ds : List PyData) (d : PyData) : Prop := ∃ (r : List (Int × Int)) (u : Int × Int), ds = [rds r, fr u] ∧ (∀ q ∈ r, Ok2 1000 q) ∧ Ok2 1000 u ∧ r.length ≤ 1000 ∧ d = rds (r.map fun q => addQ q u)
theorem ok_fq_later [B : Bl mg] (D : C8.Def K mg "_law_fq_later" (topS 48) f fd) (b : Binds K fd ["_law_readings", "_law_wait"] []) (c1 : C8.Cal P w K mg base 2 "_law_fq_sum" (spD K FAdd) []) : C8.Cal P w K mg base 3 "_law_fq_later" (spD K FLater) [] := by
  refine def_ok (N := ["_law_readings", "_law_wait", "_law_one"]) D b (by decide +kernel) (fun ds d h => by obtain ⟨a, b, rfl, _⟩ := h; rfl) ?_
  rintro X rfl rfl rfl rfl rfl C H vs ds d En hv hF q qn
  obtain ⟨r, u, rfl, hr, hu, hl, rfl⟩ := hF
  obtain ⟨v1, v2, rfl, d1, d2⟩ := dpa2 hv
  refine sb_one (st_ret (ed_tupL (EL.is (el_map1 (own := [("_law_one", 2)]) 2 (onQ fun q => fr (addQ q u)) (ei_tup (ed_var 0 rfl d1) (noL_rds r)) (fun d hd v H' q' dv s0 H0 A cl fp C' => ?_) (fun d hd => ?_) (by rw [List.length_map]; omega)) (rds_map r (fun q => addQ q u) _ fun q => rfl)).ed) q)
  · obtain ⟨o, ho, rfl⟩ := List.mem_map.mp hd
    exact ed_call c1 (ea_cons (ed_var 2 rfl dv) (ea_cons (ed_var 1 rfl (q'.dp d2)) ea_nil)) ⟨o, u, rfl, hr o ho, hu, rfl⟩
  · obtain ⟨o, ho, rfl⟩ := List.mem_map.mp hd
    rfl
def FRest (ds : List PyData) (d : PyData) : Prop := ∃ q : Int × Int, ds = [fr q] ∧ 0 < q.2 ∧ Sm 1000 q.2 ∧ d = fr (resQ q)
theorem ok_cq_rest [B : Bl mg] (D : C8.Def K mg "_law_cq_rest" (topS 49) f fd) (b : Binds K fd ["_law_reading"] []) (c1 : C8.Cal P w K mg base 1 "_law_fq_low" (spD K FLowest) []) : C8.Cal P w K mg base 2 "_law_cq_rest" (spD K FRest) [] := by
  refine def_ok (N := ["_law_reading"]) D b (by decide +kernel) (fun ds d h => by obtain ⟨a, rfl, _⟩ := h; rfl) ?_
  rintro X rfl rfl rfl rfl rfl C H vs ds d En hv hF q qn
  obtain ⟨o, rfl, ho, hs, rfl⟩ := hF
  obtain ⟨v1, rfl, d1⟩ := dpa1 hv
  exact sb_one (st_ret (ed_call c1 (ea_cons (ed_bin (od_mod ho) (ed_ixT (ed_var 0 rfl d1) ed_int rfl) (ed_ixT (ed_var 0 rfl d1) ed_int rfl)) (ea_cons (ed_ixT (ed_var 0 rfl d1) ed_int rfl) ea_nil)) ⟨_, _, rfl, ho, hs.mono (by decide), rfl⟩) q)
/-! ### back -/
def backF : Nat → List (Int × Int) → List Int → List (Int × Int)
  | _, [], _ => []
  | n, x :: r, g => (if (n : Int) ∈ g then (0, 1) else x) :: backF (n + 1) r g
theorem back_map (g : List Int) (wf : PyData → PyData) (h : ∀ (n : Nat) (q : Int × Int), wf (.tuple [.int n, fr q]) = fr (if (n : Int) ∈ g then (0, 1) else q)) : ∀ (n : Nat) (l : List (Int × Int)), (enD n (l.map fr)).map wf = (backF n l g).map fr
  | _, [] => rfl
  | n, x :: r => by
    show wf (.tuple [.int n, fr x]) :: (enD (n + 1) (r.map fr)).map wf = fr _ :: (backF (n + 1) r g).map fr
    rw [h, back_map g wf h (n + 1) r]
def FBack (ds : List PyData) (d : PyData) : Prop := ∃ (r : List (Int × Int)) (g : List Int), ds = [rds r, igs g] ∧ r.length ≤ 1000 ∧ d = rds (backF 0 r g)
theorem fr_pair {ds : List (Int × Int)} {d1 d2 : PyData} (h : PyData.tuple [d1, d2] ∈ enD 0 (ds.map fr)) : ∃ (i : Nat) (x : Int × Int), d1 = .int i ∧ d2 = fr x ∧ ds[i]? = some x := by
  obtain ⟨i, rfl, hi⟩ := en_mem h
  rw [List.getElem?_map] at hi
  cases e : ds[i]? with
  | none => rw [e] at hi; cases hi
  | some x =>
    rw [e] at hi
    exact ⟨i, x, rfl, (Option.some.inj hi).symm, e⟩
theorem ok_back [B : Bl mg] (D : C8.Def K mg "_law_back" (topS 55) f fd) (b : Binds K fd ["_law_readings", "_law_lot"] []) : C8.Cal P w K mg base 1 "_law_back" (spD K FBack) [] := by
  refine def_ok (N := ["_law_readings", "_law_lot", "_law_clock", "_law_one"]) D b (by decide +kernel) (fun ds d h => by obtain ⟨a, b, rfl, _⟩ := h; rfl) ?_
  rintro X rfl rfl rfl rfl rfl C H vs ds d En hv hF q qn
  obtain ⟨r, g, rfl, hl, rfl⟩ := hF
  obtain ⟨v1, v2, rfl, d1, d2⟩ := dpa2 hv
  refine sb_one (st_ret (ed_tupL (EL.is (el_map2 (own := [("_law_clock", 2), ("_law_one", 3)]) 2 3 (fun d => match d with | .tuple [.int n, .tuple [.int a, .int b]] => fr (if n ∈ g then (0, 1) else (a, b)) | _ => .none) (ei_enumT (ed_var 0 rfl d1) (noL_rds r)) (fun d hd => en_pair hd) (fun d1' d2' hd v1 v2 H' q' e1 e2 s0 H0 A cl fp C' => ?_) (fun d hd => ?_) ?_)
    (back_map g _ (fun n q => rfl) 0 r)).ed) q)
  · obtain ⟨i, x, rfl, rfl, _⟩ := fr_pair hd
    refine ed_if (t := decide ((i : Int) ∈ g)) (et_cmp od_inT (ed_var 2 rfl e1) (ed_var 1 rfl (q'.dp d2))) (fun h => ED.is (ed_tup (ea_cons ed_int (ea_cons ed_int ea_nil))) ?_) fun h => ED.is (ed_var 3 rfl e2) ?_
    · show _ = fr (if (i : Int) ∈ g then (0, 1) else x)
      rw [if_pos (of_decide_eq_true h)]
      rfl
    · show _ = fr (if (i : Int) ∈ g then (0, 1) else x)
      rw [if_neg (of_decide_eq_false h)]
  · obtain ⟨d1, d2, rfl⟩ := en_pair hd
    obtain ⟨i, x, rfl, rfl, _⟩ := fr_pair hd
    rfl
  · rw [enD_len, List.length_map]
    omega
end
end K9

namespace K9
open PySem PySem.Spec PyProof.Rows L2 KD
/-! ### order types of lists of ints -/
theorem strict_of {l : List Int} (h : l.Pairwise (· ≤ ·)) (nd : l.Nodup) : l.Pairwise (· < ·) := by
  have h2 := List.nodup_iff_pairwise_ne.mp nd
  exact (h.and h2).imp fun ⟨a, b⟩ => by omega
theorem sorted_ext : ∀ {a b : List Int}, a.Pairwise (· < ·) → b.Pairwise (· < ·) → (∀ x, x ∈ a ↔ x ∈ b) → a = b
  | [], [], _, _, _ => rfl
  | [], y :: s, _, _, h => absurd ((h y).mpr (List.mem_cons_self ..)) (by simp)
  | x :: r, [], _, _, h => absurd ((h x).mp (List.mem_cons_self ..)) (by simp)
  | x :: r, y :: s, ha, hb, h => by
    have ha' := List.pairwise_cons.mp ha
    have hb' := List.pairwise_cons.mp hb
    have e : x = y := by
      have h1 := (h x).mp (List.mem_cons_self ..)
      have h2 := (h y).mpr (List.mem_cons_self ..)
      rcases List.mem_cons.mp h1 with h1 | h1
      · exact h1
      · rcases List.mem_cons.mp h2 with h2 | h2
        · exact h2.symm
        · have := ha'.1 y h2
          have := hb'.1 x h1
          omega
    subst e
    rw [sorted_ext ha'.2 hb'.2 fun z => ?_]
    constructor
    · intro hz
      have hlt := ha'.1 z hz
      rcases List.mem_cons.mp ((h z).mp (List.mem_cons_of_mem _ hz)) with h1 | h1
      · omega
      · exact h1
    · intro hz
      have hlt := hb'.1 z hz
      rcases List.mem_cons.mp ((h z).mpr (List.mem_cons_of_mem _ hz)) with h1 | h1
      · omega
      · exact h1
theorem keyL_nodup (l : List Int) : (keyL l).Nodup := by
  have h : ∀ (l acc : List Int), acc.Nodup → (l.foldl (fun acc k => if k ∈ acc then acc else acc ++ [k]) acc).Nodup := by
    intro l
    induction l with
    | nil => intro acc h; exact h
    | cons x r ih =>
      intro acc h
      rw [List.foldl_cons]
      refine ih _ ?_
      split
      · exact h
      · rename_i hx
        rw [List.nodup_append]
        refine ⟨h, List.nodup_cons.mpr ⟨by simp, List.nodup_nil⟩, fun a ha b hb => ?_⟩
        rw [List.mem_singleton.mp hb]
        exact fun z => hx (z ▸ ha)
  exact h l [0] (List.nodup_cons.mpr ⟨by simp, List.nodup_nil⟩)
def levs (k : List Int) : List Int := srt (keyL k)
theorem levs_strict (k : List Int) : (levs k).Pairwise (· < ·) := strict_of (srt_sorted _) ((srt_perm _).nodup_iff.mpr (keyL_nodup k))
theorem levs_mem (k : List Int) (x : Int) : x ∈ levs k ↔ x = 0 ∨ x ∈ k := by
  unfold levs
  rw [(srt_perm _).mem_iff, keyL_mem]
def ordOf (k : List Int) : List (List Int) := (levs k).map (ixs k)
theorem ixs_map (φ : Int → Int) (x : Int) : ∀ (n : Nat) (k : List Int), (∀ y ∈ k, φ y = φ x → y = x) → idxF n (k.map φ) (φ x) = idxF n k x
  | _, [], _ => rfl
  | n, y :: r, h => by
    have ih := ixs_map φ x (n + 1) r fun z hz => h z (List.mem_cons_of_mem _ hz)
    show (if φ y = φ x then (n : Int) :: idxF (n + 1) (r.map φ) (φ x) else idxF (n + 1) (r.map φ) (φ x)) = if y = x then (n : Int) :: idxF (n + 1) r x else idxF (n + 1) r x
    rw [ih]
    by_cases e : y = x
    · rw [if_pos e, if_pos (by rw [e])]
    · rw [if_neg e, if_neg fun z => e (h y (List.mem_cons_self ..) z)]
theorem levs_iso {k : List Int} {φ : Int → Int} (h0 : φ 0 = 0) (hm : ∀ x y, (x = 0 ∨ x ∈ k) → (y = 0 ∨ y ∈ k) → x < y → φ x < φ y) : levs (k.map φ) = (levs k).map φ := by
  refine sorted_ext (levs_strict _) ?_ fun x => ?_
  · rw [List.pairwise_map]
    refine (levs_strict k).imp_of_mem fun {a b} ha hb hab => hm a b ((levs_mem k a).mp ha) ((levs_mem k b).mp hb) hab
  · rw [levs_mem, List.mem_map, List.mem_map]
    constructor
    · rintro (rfl | ⟨y, hy, rfl⟩)
      · exact ⟨0, (levs_mem k 0).mpr (.inl rfl), h0⟩
      · exact ⟨y, (levs_mem k y).mpr (.inr hy), rfl⟩
    · rintro ⟨y, hy, rfl⟩
      rcases (levs_mem k y).mp hy with rfl | hy
      · exact .inl h0
      · exact .inr ⟨y, hy, rfl⟩
theorem iso_inj {k : List Int} {φ : Int → Int} (hm : ∀ x y, (x = 0 ∨ x ∈ k) → (y = 0 ∨ y ∈ k) → x < y → φ x < φ y) {x y : Int} (hx : x = 0 ∨ x ∈ k) (hy : y = 0 ∨ y ∈ k) (e : φ x = φ y) : x = y := by
  rcases Int.lt_trichotomy x y with h | h | h
  · have := hm x y hx hy h
    omega
  · exact h
  · have := hm y x hy hx h
    omega
theorem ord_iso {k : List Int} {φ : Int → Int} (h0 : φ 0 = 0) (hm : ∀ x y, (x = 0 ∨ x ∈ k) → (y = 0 ∨ y ∈ k) → x < y → φ x < φ y) : ordOf (k.map φ) = ordOf k := by
  unfold ordOf
  rw [levs_iso h0 hm, List.map_map]
  refine List.map_congr_left fun x hx => ?_
  exact ixs_map φ x 0 k fun y hy e => iso_inj hm (.inr hy) ((levs_mem k x).mp hx) e
theorem ord_mul {k : List Int} {c : Int} (hc : 0 < c) : ordOf (k.map fun x => x * c) = ordOf k := ord_iso (Int.zero_mul c) fun x y _ _ h => Int.mul_lt_mul_of_pos_right h hc
/-! ### lowest terms -/
theorem low_prop {t b : Int} (h0 : 0 ≤ t) (hb : 0 < b) : (low t b).1 * b = t * (low t b).2 ∧ 0 < (low t b).2 ∧ (low t b).2 ≤ b ∧ 0 ≤ (low t b).1 ∧ (low t b).1 ≤ t ∧ gcdI (low t b).1 (low t b).2 = 1 ∧ ∃ g, 0 < g ∧ t = (low t b).1 * g ∧ b = (low t b).2 * g := by
  obtain ⟨m, rfl⟩ := Int.eq_ofNat_of_zero_le h0
  obtain ⟨n, rfl⟩ := Int.eq_ofNat_of_zero_le (Int.le_of_lt hb)
  have hn : 0 < n := by omega
  have hg : 0 < Nat.gcd m n := Nat.gcd_pos_of_pos_right _ hn
  have e : low (m : Int) (n : Int) = (((m / Nat.gcd m n : Nat) : Int), ((n / Nat.gcd m n : Nat) : Int)) := rfl
  rw [e]
  obtain ⟨x, hx⟩ := Nat.gcd_dvd_left m n
  obtain ⟨y, hy⟩ := Nat.gcd_dvd_right m n
  have hc := Nat.coprime_div_gcd_div_gcd hg
  have ex : m / Nat.gcd m n = x := by
    conv => lhs; lhs; rw [hx]
    exact Nat.mul_div_cancel_left _ hg
  have ey : n / Nat.gcd m n = y := by
    conv => lhs; lhs; rw [hy]
    exact Nat.mul_div_cancel_left _ hg
  rw [ex, ey] at hc
  rw [ex, ey]
  generalize Nat.gcd m n = g at hx hy hg
  subst hx
  subst hy
  have hyp : 0 < y := Nat.pos_of_mul_pos_left hn
  refine ⟨?_, by omega, ?_, by omega, ?_, ?_, (g : Int), by omega, ?_, ?_⟩
  · show (x : Int) * ((g * y : Nat) : Int) = ((g * x : Nat) : Int) * (y : Int)
    rw [Int.natCast_mul, Int.natCast_mul, ← Int.mul_assoc, Int.mul_comm (x : Int)]
  · show (y : Int) ≤ ((g * y : Nat) : Int)
    exact Int.ofNat_le.mpr (Nat.le_mul_of_pos_left y hg)
  · show (x : Int) ≤ ((g * x : Nat) : Int)
    exact Int.ofNat_le.mpr (Nat.le_mul_of_pos_left x hg)
  · show ((Nat.gcd (x : Int).toNat (y : Int).toNat : Nat) : Int) = 1
    rw [Int.toNat_natCast, Int.toNat_natCast, show Nat.gcd x y = 1 from hc]
    rfl
  · show ((g * x : Nat) : Int) = (x : Int) * (g : Int)
    rw [Int.natCast_mul, Int.mul_comm]
  · show ((g * y : Nat) : Int) = (y : Int) * (g : Int)
    rw [Int.natCast_mul, Int.mul_comm]
/-- in lowest terms -/
def Can (q : Int × Int) : Prop := 0 ≤ q.1 ∧ 0 < q.2 ∧ gcdI q.1 q.2 = 1
theorem can_eq {p q : Int × Int} (hp : Can p) (hq : Can q) (h : p.1 * q.2 = q.1 * p.2) : p = q := by
  obtain ⟨a, b⟩ := p
  obtain ⟨c, d⟩ := q
  obtain ⟨h1, h2, h3⟩ := hp
  obtain ⟨h4, h5, h6⟩ := hq
  simp only at h h1 h2 h3 h4 h5 h6
  obtain ⟨a, rfl⟩ := Int.eq_ofNat_of_zero_le h1
  obtain ⟨b, rfl⟩ := Int.eq_ofNat_of_zero_le (Int.le_of_lt h2)
  obtain ⟨c, rfl⟩ := Int.eq_ofNat_of_zero_le h4
  obtain ⟨d, rfl⟩ := Int.eq_ofNat_of_zero_le (Int.le_of_lt h5)
  unfold gcdI at h3 h6
  rw [Int.toNat_natCast, Int.toNat_natCast] at h3 h6
  have c1 : Nat.Coprime a b := by
    show Nat.gcd a b = 1
    omega
  have c2 : Nat.Coprime c d := by
    show Nat.gcd c d = 1
    omega
  have hn : a * d = c * b := by
    rw [← Int.natCast_mul, ← Int.natCast_mul] at h
    exact Int.ofNat.inj h
  have d1 : b ∣ d := c1.symm.dvd_of_dvd_mul_left (by rw [hn]; exact Nat.dvd_mul_left b c)
  have d2 : d ∣ b := c2.symm.dvd_of_dvd_mul_left (by rw [← hn]; exact Nat.dvd_mul_left d a)
  have e : b = d := Nat.dvd_antisymm d1 d2
  subst e
  have hb : 0 < b := by omega
  have : a = c := Nat.eq_of_mul_eq_mul_right hb hn
  rw [this]
theorem can_low {t b : Int} (h0 : 0 ≤ t) (hb : 0 < b) : Can (low t b) := by
  obtain ⟨_, h2, _, h4, _, h6, _⟩ := low_prop h0 hb
  exact ⟨h4, h2, h6⟩
theorem can_res {q : Int × Int} (h : 0 < q.2) : Can (resQ q) := can_low (Int.emod_nonneg _ (by omega)) h
/-! ### the product of the bottoms -/
theorem prodF_dvd : ∀ (r : List (Int × Int)) (b : Int), b ∣ r.foldl (fun b q => b * q.2) b ∧ ∀ q ∈ r, q.2 ∣ r.foldl (fun b q => b * q.2) b
  | [], b => ⟨Int.dvd_refl b, fun _ h => nomatch h⟩
  | x :: r, b => by
    obtain ⟨h1, h2⟩ := prodF_dvd r (b * x.2)
    rw [List.foldl_cons]
    refine ⟨Int.dvd_trans (Int.dvd_mul_right b x.2) h1, fun q hq => ?_⟩
    rcases List.mem_cons.mp hq with rfl | hq
    · exact Int.dvd_trans (Int.dvd_mul_left b _) h1
    · exact h2 q hq
theorem prodB_dvd {r : List (Int × Int)} {q : Int × Int} (h : q ∈ r) : q.2 ∣ prodB r := (prodF_dvd r 1).2 q h
theorem prodF_pos : ∀ (r : List (Int × Int)) (b : Int), (∀ q ∈ r, 0 < q.2) → 0 < b → 0 < r.foldl (fun b q => b * q.2) b
  | [], b, _, h => h
  | q :: r, b, hr, h => prodF_pos r (b * q.2) (fun x hx => hr x (List.mem_cons_of_mem _ hx)) (Int.mul_pos h (hr q (List.mem_cons_self ..)))
theorem prodB_pos' {r : List (Int × Int)} (h : ∀ q ∈ r, 0 < q.2) : 0 < prodB r := prodF_pos r 1 h (by decide)
theorem rest_eq (B : Int) (q : Int × Int) : restI B q = (q.1 % q.2) * (B / q.2) := by
  unfold restI
  rw [Int.emod_def, Int.mul_comm (q.1 / q.2)]
/-- the size of a rest, over B -/
def phi (B : Int) (q : Int × Int) : Int := q.1 * (B / q.2)
theorem phi_low {B t b : Int} (h0 : 0 ≤ t) (hb : 0 < b) (hd : b ∣ B) : phi B (low t b) = t * (B / b) := by
  obtain ⟨_, h2, _, _, _, _, g, hg, e1, e2⟩ := low_prop h0 hb
  obtain ⟨c, hc⟩ := hd
  unfold phi
  generalize low t b = q at h2 e1 e2
  have e3 : B / b = c := by
    rw [hc]
    exact Int.mul_ediv_cancel_left c (by omega)
  have e4 : B / q.2 = g * c := by
    rw [hc, e2, Int.mul_assoc]
    exact Int.mul_ediv_cancel_left _ (by omega)
  rw [e3, e4, e1, Int.mul_assoc]
theorem phi_rest {B : Int} {q : Int × Int} (h : 0 < q.2) (hd : q.2 ∣ B) : phi B (resQ q) = restI B q := by
  rw [rest_eq]
  exact phi_low (Int.emod_nonneg _ (by omega)) h hd
theorem phi_cross {B : Int} (hB : 0 < B) {p q : Int × Int} (hp : 0 < p.2) (hq : 0 < q.2) (dp : p.2 ∣ B) (dq : q.2 ∣ B) : (phi B p) * (p.2 * q.2) = B * (p.1 * q.2) := by
  obtain ⟨c, hc⟩ := dp
  unfold phi
  have e : B / p.2 = c := by
    rw [hc]
    exact Int.mul_ediv_cancel_left c (by omega)
  rw [e, hc]
  rw [show p.1 * c * (p.2 * q.2) = p.2 * c * (p.1 * q.2) by
    rw [Int.mul_comm p.1 c, Int.mul_assoc, ← Int.mul_assoc p.1, Int.mul_comm p.1 p.2, Int.mul_assoc p.2, ← Int.mul_assoc c, Int.mul_comm c p.2]]
theorem phi_le {B C : Int} (hB : 0 < B) (hC : 0 < C) {p q : Int × Int} (hp : 0 < p.2) (hq : 0 < q.2) (dp : p.2 ∣ B) (dq : q.2 ∣ B) (cp : p.2 ∣ C) (cq : q.2 ∣ C) (h : phi C p ≤ phi C q) : phi B p ≤ phi B q := by
  have hpq : 0 < p.2 * q.2 := Int.mul_pos hp hq
  have h1 : C * (p.1 * q.2) ≤ C * (q.1 * p.2) := by
    rw [← phi_cross hC hp hq cp cq, ← phi_cross hC hq hp cq cp, Int.mul_comm q.2 p.2]
    exact Int.mul_le_mul_of_nonneg_right h (Int.le_of_lt hpq)
  have h2 : p.1 * q.2 ≤ q.1 * p.2 := Int.le_of_mul_le_mul_left h1 hC
  have h3 : phi B p * (p.2 * q.2) ≤ phi B q * (p.2 * q.2) := by
    rw [phi_cross hB hp hq dp dq, Int.mul_comm p.2 q.2, phi_cross hB hq hp dq dp]
    exact Int.mul_le_mul_of_nonneg_left h2 (Int.le_of_lt hB)
  exact Int.le_of_mul_le_mul_right h3 hpq
theorem phi_inj {B : Int} (hB : 0 < B) {p q : Int × Int} (hp : Can p) (hq : Can q) (dp : p.2 ∣ B) (dq : q.2 ∣ B) (h : phi B p = phi B q) : p = q := by
  have h1 := phi_cross hB hp.2.1 hq.2.1 dp dq
  have h2 := phi_cross hB hq.2.1 hp.2.1 dq dp
  rw [h, Int.mul_comm p.2 q.2, h2] at h1
  exact can_eq hp hq (Int.eq_of_mul_eq_mul_left (by omega) h1).symm
/-! ### the law's class -/
def idxP : Nat → List (Int × Int) → Int × Int → List Int
  | _, [], _ => []
  | n, x :: r, q => if x = q then (n : Int) :: idxP (n + 1) r q else idxP (n + 1) r q
def idxQ (l : List (Int × Int)) (q : Int × Int) : List Int := idxP 0 l q
theorem idx_phi (φ : Int × Int → Int) (q : Int × Int) : ∀ (n : Nat) (l : List (Int × Int)), (∀ y ∈ l, φ y = φ q → y = q) → idxF n (l.map φ) (φ q) = idxP n l q
  | _, [], _ => rfl
  | n, y :: r, h => by
    have ih := idx_phi φ q (n + 1) r fun z hz => h z (List.mem_cons_of_mem _ hz)
    show (if φ y = φ q then (n : Int) :: idxF (n + 1) (r.map φ) (φ q) else idxF (n + 1) (r.map φ) (φ q)) = if y = q then (n : Int) :: idxP (n + 1) r q else idxP (n + 1) r q
    rw [ih]
    by_cases e : y = q
    · rw [if_pos e, if_pos (by rw [e])]
    · rw [if_neg e, if_neg fun z => e (h y (List.mem_cons_self ..) z)]
def someF (l : List (Int × Int)) : List (Int × Int) := l.foldl (fun acc q => if 0 < q.1 ∧ q ∉ acc then acc ++ [q] else acc) []
theorem someF_app (l : List (Int × Int)) (q : Int × Int) : someF (l ++ [q]) = if 0 < q.1 ∧ q ∉ someF l then someF l ++ [q] else someF l := by
  unfold someF
  rw [List.foldl_append]
  rfl
theorem someF_all (l : List (Int × Int)) : (someF l).Nodup ∧ ∀ q, q ∈ someF l ↔ q ∈ l ∧ 0 < q.1 := by
  have h : ∀ (l acc : List (Int × Int)), acc.Nodup → (l.foldl (fun acc q => if 0 < q.1 ∧ q ∉ acc then acc ++ [q] else acc) acc).Nodup ∧ ∀ q, q ∈ l.foldl (fun acc q => if 0 < q.1 ∧ q ∉ acc then acc ++ [q] else acc) acc ↔ q ∈ acc ∨ (q ∈ l ∧ 0 < q.1) := by
    intro l
    induction l with
    | nil =>
      intro acc h
      exact ⟨h, fun q => ⟨.inl, fun z => z.elim id fun z => (nomatch z.1)⟩⟩
    | cons x r ih =>
      intro acc h
      rw [List.foldl_cons]
      by_cases hx : 0 < x.1 ∧ x ∉ acc
      · rw [if_pos hx]
        have nd : (acc ++ [x]).Nodup := by
          rw [List.nodup_append]
          refine ⟨h, List.nodup_cons.mpr ⟨by simp, List.nodup_nil⟩, fun a ha b hb => ?_⟩
          rw [List.mem_singleton.mp hb]
          exact fun z => hx.2 (z ▸ ha)
        obtain ⟨i1, i2⟩ := ih (acc ++ [x]) nd
        refine ⟨i1, fun q => ?_⟩
        rw [i2, List.mem_append, List.mem_singleton, List.mem_cons]
        constructor
        · rintro ((z | rfl) | ⟨z, z2⟩)
          · exact .inl z
          · exact .inr ⟨.inl rfl, hx.1⟩
          · exact .inr ⟨.inr z, z2⟩
        · rintro (z | ⟨rfl | z, z2⟩)
          · exact .inl (.inl z)
          · exact .inl (.inr rfl)
          · exact .inr ⟨z, z2⟩
      · rw [if_neg hx]
        obtain ⟨i1, i2⟩ := ih acc h
        refine ⟨i1, fun q => ?_⟩
        rw [i2, List.mem_cons]
        constructor
        · rintro (z | ⟨z, z2⟩)
          · exact .inl z
          · exact .inr ⟨.inr z, z2⟩
        · rintro (z | ⟨rfl | z, z2⟩)
          · exact .inl z
          · by_cases hq : q ∈ acc
            · exact .inl hq
            · exact absurd ⟨z2, hq⟩ hx
          · exact .inr ⟨z, z2⟩
  obtain ⟨h1, h2⟩ := h l [] List.nodup_nil
  exact ⟨h1, fun q => (h2 q).trans ⟨fun z => z.elim (fun z => (nomatch z)) id, .inr⟩⟩
theorem cq_eq (r : List (Int × Int)) (hr : ∀ q ∈ r, 0 ≤ q.1 ∧ 0 < q.2) (qs : List (Int × Int)) (hp : qs.Perm (someF (r.map resQ)))
    (hs : qs.Pairwise fun a b => a.1 * prodB (someF (r.map resQ)) / a.2 ≤ b.1 * prodB (someF (r.map resQ)) / b.2) : ((0, 1) :: qs).map (idxQ (r.map resQ)) = (clsOf r).2 := by
  obtain ⟨nd, hm⟩ := someF_all (r.map resQ)
  have hB : 0 < prodB r := prodB_pos' fun q hq => (hr q hq).2
  have hmem : ∀ q ∈ qs, q ∈ r.map resQ ∧ 0 < q.1 := fun q hq => (hm q).mp (hp.mem_iff.mp hq)
  have hcan : ∀ q ∈ r.map resQ, Can q ∧ q.2 ∣ prodB r := fun q hq => by
    obtain ⟨o, ho, rfl⟩ := List.mem_map.mp hq
    refine ⟨can_res (hr o ho).2, Int.dvd_trans ?_ (prodB_dvd ho)⟩
    obtain ⟨_, _, _, _, _, _, g, _, _, e⟩ := low_prop (Int.emod_nonneg o.1 (show o.2 ≠ 0 by have := (hr o ho).2; omega)) (hr o ho).2
    exact ⟨g, e⟩
  have hC : 0 < prodB (someF (r.map resQ)) := prodB_pos' fun q hq => (hcan q ((hm q).mp hq).1).1.2.1
  have hCd : ∀ q ∈ qs, q.2 ∣ prodB (someF (r.map resQ)) := fun q hq => prodB_dvd (hp.mem_iff.mp hq)
  have hkey : ∀ q ∈ qs, q.1 * prodB (someF (r.map resQ)) / q.2 = phi (prodB (someF (r.map resQ))) q := fun q hq => Int.mul_ediv_assoc _ (hCd q hq)
  have c0 : Can (0, 1) := ⟨by decide, by decide, by decide +kernel⟩
  have p0 : phi (prodB r) (0, 1) = 0 := Int.zero_mul _
  have hkeys : keysOf r = (r.map resQ).map (phi (prodB r)) := by
    unfold keysOf
    rw [List.map_map]
    exact List.map_congr_left fun q hq => (phi_rest (hr q hq).2 (prodB_dvd hq)).symm
  have hpos : ∀ q ∈ qs, 0 < phi (prodB r) q := fun q hq => by
    obtain ⟨h1, h2⟩ := hmem q hq
    obtain ⟨h3, c, hc⟩ := hcan q h1
    unfold phi
    refine Int.mul_pos h2 ?_
    rw [hc, Int.mul_ediv_cancel_left c (by have := h3.2.1; omega)]
    rw [hc] at hB
    rcases Int.lt_or_le 0 c with h | h
    · exact h
    · have h5 := Int.mul_le_mul_of_nonneg_left h (Int.le_of_lt h3.2.1)
      rw [Int.mul_zero] at h5
      omega
  have hlev : levs (keysOf r) = ((0, 1) :: qs).map (phi (prodB r)) := by
    refine sorted_ext (levs_strict _) ?_ fun x => ?_
    · rw [List.map_cons, List.pairwise_cons, p0]
      refine ⟨fun x hx => ?_, ?_⟩
      · obtain ⟨q, hq, rfl⟩ := List.mem_map.mp hx
        exact hpos q hq
      · rw [List.pairwise_map]
        have nq : qs.Nodup := hp.nodup_iff.mpr nd
        refine (hs.and (List.nodup_iff_pairwise_ne.mp nq)).imp_of_mem fun {a b} ha hb ⟨h1, h2⟩ => ?_
        rw [hkey a ha, hkey b hb] at h1
        have ca := hcan a (hmem a ha).1
        have cb := hcan b (hmem b hb).1
        have h3 := phi_le hB hC ca.1.2.1 cb.1.2.1 ca.2 cb.2 (hCd a ha) (hCd b hb) h1
        have h4 : phi (prodB r) a ≠ phi (prodB r) b := fun z => h2 (phi_inj hB ca.1 cb.1 ca.2 cb.2 z)
        omega
    · rw [levs_mem, hkeys, List.mem_map, List.map_cons, List.mem_cons, p0, List.mem_map]
      constructor
      · rintro (h | ⟨q, hq, rfl⟩)
        · exact .inl h
        · by_cases h : 0 < q.1
          · exact .inr ⟨q, hp.mem_iff.mpr ((hm q).mpr ⟨hq, h⟩), rfl⟩
          · have hz : q.1 = 0 := by have := (hcan q hq).1.1; omega
            left
            unfold phi
            rw [hz, Int.zero_mul]
      · rintro (h | ⟨q, hq, rfl⟩)
        · exact .inl h
        · exact .inr ⟨q, (hmem q hq).1, rfl⟩
  show _ = (levs (keysOf r)).map (ixs (keysOf r))
  rw [hlev, List.map_map]
  refine List.map_congr_left fun q hq => ?_
  have hq' : Can q ∧ q.2 ∣ prodB r := by
    rcases List.mem_cons.mp hq with rfl | hq
    · exact ⟨c0, Int.one_dvd _⟩
    · exact hcan q (hmem q hq).1
  show idxQ (r.map resQ) q = ixs (keysOf r) (phi (prodB r) q)
  rw [hkeys]
  exact (idx_phi (phi (prodB r)) q 0 (r.map resQ) fun y hy e => phi_inj hB (hcan y hy).1 hq'.1 (hcan y hy).2 hq'.2 e).symm
end K9

namespace K9
open PySem PySem.Spec PyProof.Rows L2 KD
/-! ### readings over a common bottom -/
theorem div_cross {a b c D : Int} (hb : 0 < b) (hD : 0 < D) (h : a * D = c * b) : a / b = c / D ∧ (a % b) * D = (c % D) * b := by
  have e : a / b = c / D := by
    rw [← Int.mul_ediv_mul_of_pos_left a b hD, ← Int.mul_ediv_mul_of_pos_left c D hb, h, Int.mul_comm b D]
  refine ⟨e, ?_⟩
  rw [Int.emod_def, Int.emod_def, Int.sub_mul, Int.sub_mul, h, e, Int.mul_comm (b * (c / D)) D, Int.mul_comm b (c / D), ← Int.mul_assoc]
/-- q is a over D -/
def Is (D a : Int) (q : Int × Int) : Prop := q.1 * D = a * q.2
theorem cls_of {ι : Type} (L : List ι) (ρ : ι → Int × Int) (α : ι → Int) {D : Int} (hD : 0 < D) (h : ∀ i ∈ L, 0 < (ρ i).2 ∧ Is D (α i) (ρ i)) : clsOf (L.map ρ) = (L.map fun i => α i / D, ordOf (L.map fun i => α i % D)) := by
  have hpos : ∀ q ∈ L.map ρ, 0 < q.2 := fun q hq => by
    obtain ⟨i, hi, rfl⟩ := List.mem_map.mp hq
    exact (h i hi).1
  have hB : 0 < prodB (L.map ρ) := prodB_pos' hpos
  have e1 : (clsOf (L.map ρ)).1 = L.map fun i => α i / D := by
    show (L.map ρ).map (fun q => q.1 / q.2) = _
    rw [List.map_map]
    exact List.map_congr_left fun i hi => (div_cross (h i hi).1 hD (h i hi).2).1
  have e2 : (clsOf (L.map ρ)).2 = ordOf (L.map fun i => α i % D) := by
    show ordOf (keysOf (L.map ρ)) = _
    rw [← ord_mul (k := keysOf (L.map ρ)) hD, ← ord_mul (k := L.map fun i => α i % D) hB]
    congr 1
    unfold keysOf
    rw [List.map_map, List.map_map, List.map_map]
    refine List.map_congr_left fun i hi => ?_
    show restI (prodB (L.map ρ)) (ρ i) * D = (α i % D) * prodB (L.map ρ)
    rw [rest_eq]
    obtain ⟨c, hc⟩ := prodB_dvd (r := L.map ρ) (q := ρ i) (List.mem_map.mpr ⟨i, hi, rfl⟩)
    have hb := (h i hi).1
    rw [hc, Int.mul_ediv_cancel_left c (by omega), Int.mul_assoc, Int.mul_comm c D, ← Int.mul_assoc, (div_cross hb hD (h i hi).2).2, Int.mul_assoc]
  exact Prod.ext e1 e2
theorem is_low {D a t b : Int} (h0 : 0 ≤ t) (hb : 0 < b) (h : t * D = a * b) : Is D a (low t b) := by
  obtain ⟨e, h2, _, _, _, _, g, hg, e1, e2⟩ := low_prop h0 hb
  unfold Is
  generalize low t b = q at e1 e2
  subst e1
  subst e2
  have : (q.1 * D) * g = (a * q.2) * g := by
    rw [Int.mul_assoc, Int.mul_comm D g, ← Int.mul_assoc, h, Int.mul_assoc]
  exact Int.eq_of_mul_eq_mul_right (by omega) this
theorem is_add {D a c : Int} {q u : Int × Int} (hq : 0 ≤ q.1) (hq2 : 0 < q.2) (hu : 0 ≤ u.1) (hu2 : 0 < u.2) (h1 : Is D a q) (h2 : Is D c u) : Is D (a + c) (addQ q u) := by
  refine is_low (Int.add_nonneg (Int.mul_nonneg hq (Int.le_of_lt hu2)) (Int.mul_nonneg hu (Int.le_of_lt hq2))) (Int.mul_pos hq2 hu2) ?_
  unfold Is at h1 h2
  rw [Int.add_mul, Int.add_mul]
  congr 1
  · rw [Int.mul_assoc, Int.mul_comm u.2 D, ← Int.mul_assoc, h1, Int.mul_assoc]
  · rw [Int.mul_assoc, Int.mul_comm q.2 D, ← Int.mul_assoc, h2, Int.mul_assoc, Int.mul_comm u.2 q.2]
theorem is_mul {D E a c : Int} {q u : Int × Int} (hq : 0 ≤ q.1) (hq2 : 0 < q.2) (hu : 0 ≤ u.1) (hu2 : 0 < u.2) (h1 : Is D a q) (h2 : Is E c u) : Is (D * E) (a * c) (mulQ q u) := by
  refine is_low (Int.mul_nonneg hq hu) (Int.mul_pos hq2 hu2) ?_
  unfold Is at h1 h2
  rw [show q.1 * u.1 * (D * E) = (q.1 * D) * (u.1 * E) by
    rw [Int.mul_assoc, Int.mul_assoc, ← Int.mul_assoc u.1, Int.mul_comm u.1 D, Int.mul_assoc D], h1, h2]
  rw [Int.mul_assoc, Int.mul_assoc, ← Int.mul_assoc q.2, Int.mul_comm q.2 c, Int.mul_assoc c]
theorem is_scale {D a : Int} (s : Int) {q : Int × Int} (h : Is D a q) : Is (s * D) (s * a) q := by
  unfold Is at *
  rw [← Int.mul_assoc, Int.mul_comm q.1 s, Int.mul_assoc, h, Int.mul_assoc]
/-- the numbers of readings over the product of their bottoms -/
theorem is_phi {r : List (Int × Int)} {q : Int × Int} (hq : q ∈ r) (hb : 0 < q.2) : Is (prodB r) (phi (prodB r) q) q := by
  obtain ⟨c, hc⟩ := prodB_dvd hq
  unfold Is phi
  rw [hc, Int.mul_ediv_cancel_left c (by omega), Int.mul_assoc, Int.mul_comm c q.2]
/-! ### positions -/
theorem mem_idx (k : Int) : ∀ (n : Nat) (l : List Int) (i : Int), i ∈ idxF n l k ↔ ∃ j : Nat, l[j]? = some k ∧ i = ((n + j : Nat) : Int)
  | n, [], i => by simp [idxF]
  | n, x :: r, i => by
    have ih := mem_idx k (n + 1) r i
    show i ∈ (if x = k then (n : Int) :: idxF (n + 1) r k else idxF (n + 1) r k) ↔ _
    constructor
    · intro h
      by_cases hx : x = k
      · rw [if_pos hx] at h
        rcases List.mem_cons.mp h with rfl | h
        · exact ⟨0, by rw [hx]; rfl, rfl⟩
        · obtain ⟨j, h1, h2⟩ := ih.mp h
          exact ⟨j + 1, h1, by rw [h2]; omega⟩
      · rw [if_neg hx] at h
        obtain ⟨j, h1, h2⟩ := ih.mp h
        exact ⟨j + 1, h1, by rw [h2]; omega⟩
    · rintro ⟨j, h1, h2⟩
      cases j with
      | zero =>
        have hx : x = k := Option.some.inj h1
        rw [if_pos hx, h2]
        exact List.mem_cons_self ..
      | succ j =>
        have h3 := ih.mpr ⟨j, h1, by rw [h2]; omega⟩
        by_cases hx : x = k
        · rw [if_pos hx]
          exact List.mem_cons_of_mem _ h3
        · rw [if_neg hx]
          exact h3
theorem mem_ixs {k : Int} {l : List Int} {i : Int} : i ∈ ixs l k ↔ ∃ j : Nat, l[j]? = some k ∧ i = (j : Int) := by
  unfold ixs
  rw [mem_idx]
  simp only [Nat.zero_add]
theorem idx_up (k : Int) : ∀ (n : Nat) (l : List Int), (idxF n l k).Pairwise (· < ·)
  | _, [] => .nil
  | n, x :: r => by
    have ih := idx_up k (n + 1) r
    show (if x = k then (n : Int) :: idxF (n + 1) r k else idxF (n + 1) r k).Pairwise (· < ·)
    split
    · refine List.pairwise_cons.mpr ⟨fun y hy => ?_, ih⟩
      obtain ⟨j, _, rfl⟩ := (mem_idx k (n + 1) r y).mp hy
      omega
    · exact ih
theorem raise_eq {ι : Type} (w : ι → Int) (Pr : ι → Prop) [DecidablePred Pr] (g : List Int) : ∀ (n : Nat) (L : List ι), (∀ (j : Nat) x, L[j]? = some x → (((n + j : Nat) : Int) ∈ g ↔ Pr x)) → raiseF n (L.map w) g = L.map fun x => w x + if Pr x then 1 else 0
  | _, [], _ => rfl
  | n, x :: r, h => by
    have ih := raise_eq w Pr g (n + 1) r fun j y e => by
      have := h (j + 1) y e
      rwa [show n + (j + 1) = n + 1 + j by omega] at this
    have h0 : (n : Int) ∈ g ↔ Pr x := h 0 x rfl
    show (w x + if (n : Int) ∈ g then 1 else 0) :: raiseF (n + 1) (r.map w) g = (w x + if Pr x then 1 else 0) :: r.map _
    rw [ih]
    congr 2
    by_cases hx : Pr x
    · rw [if_pos hx, if_pos (h0.mpr hx)]
    · rw [if_neg hx, if_neg fun z => hx (h0.mp z)]
/-! ### a shift that reaches nothing -/
theorem levs_head {k : List Int} (h : ∀ x ∈ k, 0 ≤ x) : ∃ U, levs k = 0 :: U ∧ (∀ x, x ∈ U ↔ x ∈ k ∧ 0 < x) ∧ U.Pairwise (· < ·) := by
  have hs := levs_strict k
  have hm := levs_mem k
  cases e : levs k with
  | nil => exact absurd ((hm 0).mpr (.inl rfl)) (by rw [e]; simp)
  | cons a U =>
    rw [e] at hs hm
    have hs' := List.pairwise_cons.mp hs
    have h0 := (hm 0).mpr (.inl rfl)
    have ha : a = 0 := by
      rcases List.mem_cons.mp h0 with h0 | h0
      · exact h0.symm
      · have h1 := hs'.1 0 h0
        rcases (hm a).mp (List.mem_cons_self ..) with z | z
        · exact z
        · have := h a z
          omega
    subst ha
    refine ⟨U, rfl, fun x => ⟨fun hx => ?_, fun ⟨hx, hp⟩ => ?_⟩, hs'.2⟩
    · have h1 := hs'.1 x hx
      rcases (hm x).mp (List.mem_cons_of_mem _ hx) with z | z
      · omega
      · exact ⟨z, h1⟩
    · rcases List.mem_cons.mp ((hm x).mpr (.inr hx)) with z | z
      · omega
      · exact z
theorem ixs_nil {k : List Int} {x : Int} (h : x ∉ k) : ixs k x = [] := idxF_none 0 k x h
theorem ixs_ne {k : List Int} {x : Int} (h : x ∈ k) : ixs k x ≠ [] := by
  obtain ⟨j, hj⟩ := List.getElem?_of_mem h
  exact List.ne_nil_of_mem (mem_ixs.mpr ⟨j, hj, rfl⟩)
theorem ord_shift {k : List Int} {s t : Int} (hk : ∀ x ∈ k, 0 ≤ x) (hs : 0 < s) (ht : 0 < t) : ordOf (k.map fun x => s * x + t) = if 0 ∈ k then [] :: ordOf k else ordOf k := by
  by_cases h : 0 ∈ k
  · rw [if_pos h]
    have hf : ∀ x ∈ k, 0 < s * x + t := fun x hx => by
      have := Int.mul_nonneg (Int.le_of_lt hs) (hk x hx)
      omega
    have hl : levs (k.map fun x => s * x + t) = 0 :: (levs k).map fun x => s * x + t := by
      refine sorted_ext (levs_strict _) ?_ fun x => ?_
      · rw [List.pairwise_cons, List.pairwise_map]
        refine ⟨fun x hx => ?_, (levs_strict k).imp fun {a b} hab => ?_⟩
        · obtain ⟨y, hy, rfl⟩ := List.mem_map.mp hx
          rcases (levs_mem k y).mp hy with rfl | hy
          · rw [Int.mul_zero]; omega
          · exact hf y hy
        · have := Int.mul_lt_mul_of_pos_left hab hs
          omega
      · rw [levs_mem, List.mem_cons, List.mem_map, List.mem_map]
        constructor
        · rintro (h1 | ⟨y, hy, rfl⟩)
          · exact .inl h1
          · exact .inr ⟨y, (levs_mem k y).mpr (.inr hy), rfl⟩
        · rintro (h1 | ⟨y, hy, rfl⟩)
          · exact .inl h1
          · rcases (levs_mem k y).mp hy with rfl | hy
            · exact .inr ⟨0, h, rfl⟩
            · exact .inr ⟨y, hy, rfl⟩
    unfold ordOf
    rw [hl, List.map_cons, List.map_map]
    congr 1
    · refine ixs_nil fun z => ?_
      obtain ⟨y, hy, e⟩ := List.mem_map.mp z
      have := hf y hy
      omega
    · refine List.map_congr_left fun x hx => ?_
      exact ixs_map (fun x => s * x + t) x 0 k fun y hy e => by
        have e' : s * y + t = s * x + t := e
        exact Int.eq_of_mul_eq_mul_left (a := s) (by omega) (by omega)
  · rw [if_neg h]
    have e : (k.map fun x => s * x + t) = k.map fun x => if x = 0 then 0 else s * x + t := List.map_congr_left fun x hx => by
      rw [if_neg fun z => h (by rw [← z]; exact hx)]
    rw [e]
    refine ord_iso (if_pos rfl) fun x y hx hy hxy => ?_
    have nx : 0 ≤ x := hx.elim (fun z => by omega) fun z => hk x z
    by_cases x0 : x = 0
    · have y0 : ¬ y = 0 := by omega
      have := Int.mul_nonneg (Int.le_of_lt hs) (show 0 ≤ y by omega)
      rw [if_pos x0, if_neg y0]
      omega
    · have y0 : ¬ y = 0 := by omega
      rw [if_neg x0, if_neg y0]
      have := Int.mul_lt_mul_of_pos_left hxy hs
      omega
theorem dm_shift {a D s t G : Int} (hD : 0 < D) (hs : 0 < s) (ht : 0 < t) (hG : a % D ≤ G) (h : s * G + t < s * D) : (s * a + t) / (s * D) = a / D ∧ (s * a + t) % (s * D) = s * (a % D) + t := by
  have h0 := Int.emod_nonneg a (show D ≠ 0 by omega)
  have e : s * a + t = (s * (a % D) + t) + (s * D) * (a / D) := by
    have := Int.emod_add_mul_ediv a D
    calc s * a + t = s * (a % D + D * (a / D)) + t := by rw [this]
      _ = _ := by rw [Int.mul_add, Int.mul_assoc]; omega
  have h1 := Int.mul_le_mul_of_nonneg_left hG (Int.le_of_lt hs)
  have h2 := Int.mul_nonneg (Int.le_of_lt hs) h0
  have hsD : 0 < s * D := Int.mul_pos hs hD
  rw [e]
  refine ⟨?_, ?_⟩
  · rw [Int.add_mul_ediv_left _ _ (by omega), Int.ediv_eq_zero_of_lt (by omega) (by omega), Int.zero_add]
  · rw [Int.add_mul_emod_self_left, Int.emod_eq_of_lt (by omega) (by omega)]
end K9

namespace K9
open PySem PySem.Spec PyProof.Rows L2 KD
/-! ### the first moment: those at the greatest rest come to a whole -/
theorem dm_top {a D G : Int} (hD : 0 < D) (hG : a % D ≤ G) (hGD : G < D) (h0 : 0 < a % D) : (a + (D - G)) / D = a / D + (if a % D = G then 1 else 0) ∧ (a + (D - G)) % D = if a % D = G then 0 else a % D + (D - G) := by
  have e := Int.emod_add_mul_ediv a D
  by_cases h : a % D = G
  · rw [if_pos h, if_pos h]
    have e2 : a + (D - G) = 0 + D * (a / D + 1) := by
      rw [Int.mul_add, Int.mul_one]
      omega
    rw [e2]
    refine ⟨?_, ?_⟩
    · rw [Int.add_mul_ediv_left _ _ (by omega)]
      simp
    · rw [Int.add_mul_emod_self_left]
      rfl
  · rw [if_neg h, if_neg h]
    have e2 : a + (D - G) = (a % D + (D - G)) + D * (a / D) := by omega
    rw [e2]
    refine ⟨?_, ?_⟩
    · rw [Int.add_mul_ediv_left _ _ (by omega), Int.ediv_eq_zero_of_lt (by omega) (by omega)]
      omega
    · rw [Int.add_mul_emod_self_left, Int.emod_eq_of_lt (by omega) (by omega)]
theorem ord_top {k : List Int} {G D : Int} (hk : ∀ x ∈ k, 0 < x ∧ x ≤ G) (hG : G ∈ k) (hGD : G < D) :
    ordOf (k.map fun x => if x = G then 0 else x + (D - G)) = ixs k G :: (ordOf k).tail.dropLast ∧ (ordOf k).getLastD [] = ixs k G ∧ (ordOf k).headD [] = [] := by
  obtain ⟨U, hU, hm, hs⟩ := levs_head (k := k) fun x hx => by have := (hk x hx).1; omega
  have h0 : 0 ∉ k := fun z => by have := (hk 0 z).1; omega
  have hGU : G ∈ U := (hm G).mpr ⟨hG, (hk G hG).1⟩
  have hUne : U ≠ [] := List.ne_nil_of_mem hGU
  obtain ⟨V, z, hV⟩ : ∃ V z, U = V ++ [z] := ⟨U.dropLast, U.getLast hUne, (List.dropLast_concat_getLast hUne).symm⟩
  have hs2 := hs
  rw [hV, List.pairwise_append] at hs2
  obtain ⟨hsV, _, hVz⟩ := hs2
  have hzG : z = G := by
    have hz := (hm z).mp (by rw [hV]; exact List.mem_append_right _ (List.mem_cons_self ..))
    have := (hk z hz.1).2
    rw [hV, List.mem_append, List.mem_singleton] at hGU
    rcases hGU with h | h
    · have := hVz G h z (List.mem_cons_self ..)
      omega
    · exact h.symm
  subst hzG
  have hVm : ∀ x ∈ V, x ∈ k ∧ 0 < x ∧ x < z := fun x hx => by
    have h1 := (hm x).mp (by rw [hV]; exact List.mem_append_left _ hx)
    exact ⟨h1.1, h1.2, hVz x hx z (List.mem_cons_self ..)⟩
  have hord : ordOf k = ixs k 0 :: (V.map (ixs k) ++ [ixs k z]) := by
    unfold ordOf
    rw [hU, List.map_cons, hV, List.map_append]
    rfl
  have hlev : levs (k.map fun x => if x = z then 0 else x + (D - z)) = 0 :: V.map fun x => x + (D - z) := by
    refine sorted_ext (levs_strict _) ?_ fun x => ?_
    · rw [List.pairwise_cons, List.pairwise_map]
      refine ⟨fun x hx => ?_, hsV.imp fun {a b} h => by omega⟩
      obtain ⟨y, hy, rfl⟩ := List.mem_map.mp hx
      have := hVm y hy
      omega
    · rw [levs_mem, List.mem_cons, List.mem_map, List.mem_map]
      constructor
      · rintro (h | ⟨y, hy, rfl⟩)
        · exact .inl h
        · by_cases e : y = z
          · rw [if_pos e]
            exact .inl rfl
          · rw [if_neg e]
            right
            have h1 := (hm y).mpr ⟨hy, (hk y hy).1⟩
            rw [hV, List.mem_append, List.mem_singleton] at h1
            exact ⟨y, h1.resolve_right e, rfl⟩
      · rintro (h | ⟨y, hy, rfl⟩)
        · exact .inl h
        · have h1 := hVm y hy
          exact .inr ⟨y, h1.1, if_neg (by omega)⟩
  refine ⟨?_, ?_, ?_⟩
  · rw [hord]
    show ordOf _ = ixs k z :: (V.map (ixs k) ++ [ixs k z]).dropLast
    rw [List.dropLast_concat]
    unfold ordOf
    rw [hlev, List.map_cons, List.map_map]
    congr 1
    · have := ixs_map (fun x => if x = z then 0 else x + (D - z)) z 0 k fun y hy e => by
        have e' : (if y = z then 0 else y + (D - z)) = if z = z then 0 else z + (D - z) := e
        rw [if_pos rfl] at e'
        by_cases h : y = z
        · exact h
        · rw [if_neg h] at e'
          have := hk y hy
          omega
      have e2 : (if z = z then (0 : Int) else z + (D - z)) = 0 := if_pos rfl
      rw [e2] at this
      exact this
    · refine List.map_congr_left fun x hx => ?_
      have h1 := hVm x hx
      have := ixs_map (fun x => if x = z then 0 else x + (D - z)) x 0 k fun y hy e => by
        have e' : (if y = z then 0 else y + (D - z)) = if x = z then 0 else x + (D - z) := e
        rw [if_neg (show ¬ x = z by omega)] at e'
        by_cases h : y = z
        · rw [if_pos h] at e'
          omega
        · rw [if_neg h] at e'
          omega
      have e2 : (if x = z then (0 : Int) else x + (D - z)) = x + (D - z) := if_neg (by omega)
      rw [e2] at this
      exact this
  · rw [hord, ← List.cons_append, List.getLastD_concat]
  · rw [hord]
    exact ixs_nil h0
/-! ### put back -/
theorem lower_eq {ι : Type} (w : ι → Int) (g : List Int) : ∀ (n : Nat) (L : List ι) , lowerF n (L.map w) g = (List.zipIdx L n).map fun p => if (p.2 : Int) ∈ g then 0 else w p.1
  | _, [] => rfl
  | n, x :: r => by
    show (if (n : Int) ∈ g then 0 else w x) :: lowerF (n + 1) (r.map w) g = _
    rw [lower_eq w g (n + 1) r, List.zipIdx_cons, List.map_cons]
theorem back_eq (g : List Int) : ∀ (n : Nat) (L : List (Int × Int)), backF n L g = (List.zipIdx L n).map fun p => if (p.2 : Int) ∈ g then (0, 1) else p.1
  | _, [] => rfl
  | n, x :: r => by
    show (if (n : Int) ∈ g then (0, 1) else x) :: backF (n + 1) r g = _
    rw [back_eq g (n + 1) r, List.zipIdx_cons, List.map_cons]
/-- keys, some of them put to nothing -/
def zeroK (k : List Int) (g : List Int) : List Int := (List.zipIdx k 0).map fun p => if (p.2 : Int) ∈ g then 0 else p.1
theorem zeroK_get (k g : List Int) (j : Nat) : (zeroK k g)[j]? = k[j]?.map fun x => if (j : Int) ∈ g then 0 else x := by
  unfold zeroK
  rw [List.getElem?_map, List.getElem?_zipIdx]
  cases k[j]? with
  | none => rfl
  | some x => simp
theorem ord_put {k g : List Int} (hk : ∀ x ∈ k, 0 ≤ x) (hg : ∀ c ∈ g, 0 ≤ c ∧ c < k.length) (hp : g.Pairwise (· < ·)) :
    ordOf (zeroK k g) = srt (((ordOf k).map (List.filter fun i => !decide (i ∈ g))).headD [] ++ g) :: (((ordOf k).map (List.filter fun i => !decide (i ∈ g))).tail.filter fun l => !decide (l = [])) := by
  have hk2 : ∀ x ∈ zeroK k g, 0 ≤ x := fun x hx => by
    obtain ⟨j, hj⟩ := List.getElem?_of_mem hx
    rw [zeroK_get] at hj
    cases e : k[j]? with
    | none => rw [e] at hj; cases hj
    | some y =>
      rw [e] at hj
      have hj : (if (j : Int) ∈ g then 0 else y) = x := Option.some.inj hj
      have := hk y (List.mem_of_getElem? e)
      split at hj <;> omega
  obtain ⟨U, hU, hm, hs⟩ := levs_head hk
  obtain ⟨V, hV, hmV, hsV⟩ := levs_head hk2
  have hix : ∀ x, 0 < x → ixs (zeroK k g) x = (ixs k x).filter fun i => !decide (i ∈ g) := fun x hx => by
    refine sorted_ext (idx_up x 0 _) ((idx_up x 0 k).filter _) fun i => ?_
    rw [mem_ixs, List.mem_filter, mem_ixs]
    simp only [Bool.not_eq_true', decide_eq_false_iff_not]
    constructor
    · rintro ⟨j, hj, rfl⟩
      rw [zeroK_get] at hj
      cases e : k[j]? with
      | none => rw [e] at hj; cases hj
      | some y =>
        rw [e] at hj
        have hj : (if (j : Int) ∈ g then 0 else y) = x := Option.some.inj hj
        split at hj
        · omega
        · rename_i hng
          exact ⟨⟨j, by rw [e, hj], rfl⟩, hng⟩
    · rintro ⟨⟨j, hj, rfl⟩, hng⟩
      refine ⟨j, ?_, rfl⟩
      rw [zeroK_get, hj]
      show some (if (j : Int) ∈ g then 0 else x) = some x
      rw [if_neg hng]
  have hVU : V = U.filter fun x => decide (x ∈ zeroK k g) := by
    refine sorted_ext hsV (hs.filter _) fun x => ?_
    rw [List.mem_filter, hmV, hm, decide_eq_true_eq]
    constructor
    · rintro ⟨h1, h2⟩
      refine ⟨⟨?_, h2⟩, h1⟩
      obtain ⟨j, hj⟩ := List.getElem?_of_mem h1
      rw [zeroK_get] at hj
      cases e : k[j]? with
      | none => rw [e] at hj; cases hj
      | some y =>
        rw [e] at hj
        have hj : (if (j : Int) ∈ g then 0 else y) = x := Option.some.inj hj
        split at hj
        · omega
        · rw [← hj]
          exact List.mem_of_getElem? e
    · rintro ⟨⟨_, h2⟩, h1⟩
      exact ⟨h1, h2⟩
  unfold ordOf
  rw [hU, hV]
  simp only [List.map_cons, List.headD_cons, List.tail_cons]
  congr 1
  · refine sorted_ext (idx_up 0 0 _) ?_ fun i => ?_
    · refine strict_of (srt_sorted _) ((srt_perm _).nodup_iff.mpr ?_)
      rw [List.nodup_append]
      refine ⟨((List.nodup_iff_pairwise_ne.mpr ((idx_up 0 0 k).imp fun h => by omega)).filter _), List.nodup_iff_pairwise_ne.mpr (hp.imp fun h => by omega), fun a ha b hb e => ?_⟩
      have h1 := (List.mem_filter.mp ha).2
      rw [e] at h1
      simp [hb] at h1
    · rw [mem_ixs, (srt_perm _).mem_iff, List.mem_append, List.mem_filter, mem_ixs]
      simp only [Bool.not_eq_true', decide_eq_false_iff_not]
      constructor
      · rintro ⟨j, hj, rfl⟩
        rw [zeroK_get] at hj
        by_cases hg' : (j : Int) ∈ g
        · exact .inr hg'
        · cases e : k[j]? with
          | none => rw [e] at hj; cases hj
          | some y =>
            rw [e] at hj
            have hj : (if (j : Int) ∈ g then 0 else y) = 0 := Option.some.inj hj
            rw [if_neg hg'] at hj
            exact .inl ⟨⟨j, by rw [e, hj], rfl⟩, hg'⟩
      · rintro (⟨⟨j, hj, rfl⟩, hng⟩ | h)
        · refine ⟨j, ?_, rfl⟩
          rw [zeroK_get, hj]
          show some (if (j : Int) ∈ g then 0 else 0) = some 0
          rw [if_neg hng]
        · obtain ⟨h1, h2⟩ := hg i h
          refine ⟨i.toNat, ?_, by omega⟩
          rw [zeroK_get, List.getElem?_eq_getElem (show i.toNat < k.length by omega)]
          show some (if ((i.toNat : Nat) : Int) ∈ g then 0 else _) = some 0
          rw [if_pos (by rw [show ((i.toNat : Nat) : Int) = i by omega]; exact h)]
  · rw [hVU, List.map_map, List.filter_map]
    have e : U.filter (fun x => decide (x ∈ zeroK k g)) = U.filter ((fun l => !decide (l = [])) ∘ (List.filter (fun i => !decide (i ∈ g)) ∘ ixs k)) := by
      refine List.filter_congr fun x hx => ?_
      show decide (x ∈ zeroK k g) = !decide (List.filter (fun i => !decide (i ∈ g)) (ixs k x) = [])
      rw [← hix x ((hm x).mp hx).2]
      by_cases h : x ∈ zeroK k g
      · have := ixs_ne h
        simp [h, this]
      · simp [h, ixs_nil h]
    rw [e]
    refine List.map_congr_left fun x hx => ?_
    exact hix x ((hm x).mp ((List.mem_filter.mp hx).1)).2
end K9

namespace K9
open PySem PySem.Spec PyProof.Rows L2 KD
/-! ### classes of valid readings -/
/-- what is reckoned with: positive bottoms -/
def PosR (r : List (Int × Int)) : Prop := ∀ q ∈ r, 0 ≤ q.1 ∧ 0 < q.2
def numQ (r : List (Int × Int)) (q : Int × Int) : Int := phi (prodB r) q
def keyQ (r : List (Int × Int)) (q : Int × Int) : Int := numQ r q % prodB r
theorem pos_B {r : List (Int × Int)} (h : PosR r) : 0 < prodB r := prodB_pos' fun q hq => (h q hq).2
theorem is_num {r : List (Int × Int)} (h : PosR r) {q : Int × Int} (hq : q ∈ r) : Is (prodB r) (numQ r q) q := is_phi hq (h q hq).2
theorem cls_eq {r : List (Int × Int)} (h : PosR r) : clsOf r = (r.map fun q => numQ r q / prodB r, ordOf (r.map (keyQ r))) := by
  have := cls_of r (fun q => q) (numQ r) (pos_B h) fun q hq => ⟨(h q hq).2, is_num h hq⟩
  rw [List.map_id'] at this
  exact this
theorem key_rng {r : List (Int × Int)} (h : PosR r) (q : Int × Int) : 0 ≤ keyQ r q ∧ keyQ r q < prodB r := ⟨Int.emod_nonneg _ (by have := pos_B h; omega), Int.emod_lt_of_pos _ (pos_B h)⟩
theorem fl_eq {r : List (Int × Int)} (h : PosR r) {q : Int × Int} (hq : q ∈ r) : q.1 / q.2 = numQ r q / prodB r := (div_cross (h q hq).2 (pos_B h) (is_num h hq)).1
/-- a key is nothing where the reading is whole -/
theorem key_zero {r : List (Int × Int)} (h : PosR r) {q : Int × Int} (hq : q ∈ r) : keyQ r q = 0 ↔ q.1 % q.2 = 0 := by
  have e := (div_cross (h q hq).2 (pos_B h) (is_num h hq)).2
  have hb := (h q hq).2
  have hB := pos_B h
  have e' : (q.1 % q.2) * prodB r = keyQ r q * q.2 := e
  constructor
  · intro z
    rw [z, Int.zero_mul] at e'
    rcases Int.mul_eq_zero.mp e' with h1 | h1
    · exact h1
    · omega
  · intro z
    rw [z, Int.zero_mul] at e'
    rcases Int.mul_eq_zero.mp e'.symm with h1 | h1
    · exact h1
    · omega
theorem keys_nn {r : List (Int × Int)} (h : PosR r) : ∀ x ∈ r.map (keyQ r), 0 ≤ x := fun x hx => by
  obtain ⟨q, _, rfl⟩ := List.mem_map.mp hx
  exact (key_rng h q).1
theorem levs_len (k : List Int) : (levs k).length ≤ k.length + 1 := by
  unfold levs
  rw [srt_len]
  exact keyL_len k
theorem ord_Ord {k : List Int} (hk : ∀ x ∈ k, 0 ≤ x) (h3 : k.length ≤ 3) : Ord k.length (ordOf k) := by
  obtain ⟨U, hU, hm, hs⟩ := levs_head hk
  have hmem : ∀ i : Int, i ∈ (ordOf k).flatten ↔ 0 ≤ i ∧ i < k.length := fun i => by
    rw [List.mem_flatten]
    constructor
    · rintro ⟨g, hg, hi⟩
      obtain ⟨x, _, rfl⟩ := List.mem_map.mp hg
      obtain ⟨j, hj, rfl⟩ := mem_ixs.mp hi
      have := (List.getElem?_eq_some_iff.mp hj).1
      omega
    · rintro ⟨h1, h2⟩
      have hj := List.getElem?_eq_getElem (show i.toNat < k.length by omega)
      refine ⟨_, List.mem_map.mpr ⟨_, (levs_mem k _).mpr (.inr (List.mem_of_getElem? hj)), rfl⟩, mem_ixs.mpr ⟨i.toNat, hj, by omega⟩⟩
  have hnd : (ordOf k).flatten.Nodup := by
    rw [List.nodup_iff_pairwise_ne, List.pairwise_flatten]
    refine ⟨fun g hg => ?_, ?_⟩
    · obtain ⟨x, _, rfl⟩ := List.mem_map.mp hg
      exact (idx_up x 0 k).imp fun h => by omega
    · unfold ordOf
      rw [List.pairwise_map]
      refine (levs_strict k).imp fun {a b} hab => ?_
      intro i hi i2 hi2 ee
      subst ee
      obtain ⟨j, hj, rfl⟩ := mem_ixs.mp hi
      obtain ⟨j2, hj2, e⟩ := mem_ixs.mp hi2
      have : j = j2 := by omega
      subst this
      rw [hj] at hj2
      have := Option.some.inj hj2
      omega
  refine ⟨?_, fun g hg => ?_, ?_, ?_, h3, ?_⟩
  · unfold ordOf
    rw [hU]
    exact List.cons_ne_nil _ _
  · obtain ⟨x, _, rfl⟩ := List.mem_map.mp hg
    refine ⟨fun c hc => ?_, idx_up x 0 k, Nat.le_trans (idxF_len 0 k x) (by omega)⟩
    obtain ⟨j, hj, rfl⟩ := mem_ixs.mp hc
    have := (List.getElem?_eq_some_iff.mp hj).1
    omega
  · intro g hg
    unfold ordOf at hg
    rw [hU, List.map_cons, List.tail_cons] at hg
    obtain ⟨x, hx, rfl⟩ := List.mem_map.mp hg
    exact ixs_ne ((hm x).mp hx).1
  · have e : srt (ordOf k).flatten = (List.range k.length).map fun i => (0 : Int) + (i : Nat) := by
      refine sorted_ext (strict_of (srt_sorted _) ((srt_perm _).nodup_iff.mpr hnd)) ?_ fun x => ?_
      · rw [List.pairwise_map]
        exact List.pairwise_lt_range.imp fun h => by omega
      · rw [(srt_perm _).mem_iff, hmem, List.mem_map]
        constructor
        · rintro ⟨h1, h2⟩
          exact ⟨x.toNat, List.mem_range.mpr (by omega), by omega⟩
        · rintro ⟨i, hi, rfl⟩
          have := List.mem_range.mp hi
          omega
    rw [e]
    unfold rgD
    rw [List.map_map, show ((k.length : Int) - 0).toNat = k.length by omega]
    rfl
  · unfold ordOf
    rw [List.length_map]
    have := levs_len k
    omega
theorem Val.pos {r : List (Int × Int)} (h : Val r) : PosR r := fun q hq => ⟨(h.1 q hq).1.1, (h.1 q hq).1.2.1⟩
theorem four_key {q : Int × Int} (h0 : 0 ≤ q.1) (hb : 0 < q.2) (h4 : q.1 ≤ 4 * q.2) : 0 ≤ q.1 / q.2 ∧ q.1 / q.2 ≤ 4 ∧ (q.1 / q.2 = 4 → q.1 % q.2 = 0) := by
  have e := Int.emod_add_mul_ediv q.1 q.2
  have h1 := Int.emod_nonneg q.1 (show q.2 ≠ 0 by omega)
  refine ⟨Int.ediv_nonneg h0 (by omega), Int.ediv_le_of_le_mul hb (by omega), fun z => ?_⟩
  rw [z] at e
  omega
theorem head_ord {k : List Int} (hk : ∀ x ∈ k, 0 ≤ x) : (ordOf k).headD [] = ixs k 0 := by
  obtain ⟨U, hU, _, _⟩ := levs_head hk
  unfold ordOf
  rw [hU]
  rfl
theorem wf_of {r : List (Int × Int)} (h : Val r) : Wf (clsOf r) := by
  have hP := h.pos
  have e := cls_eq hP
  have e2 : (clsOf r).2 = ordOf (r.map (keyQ r)) := by rw [e]
  have l1 : (clsOf r).1.length = r.length := List.length_map ..
  have lk : (r.map (keyQ r)).length = r.length := List.length_map ..
  refine ⟨by rw [l1]; exact h.2.1, ?_, fun w hw => ?_, fun i w hw => ?_⟩
  · rw [l1, e2, ← lk]
    exact ord_Ord (keys_nn hP) (by rw [lk]; exact h.2.2)
  · obtain ⟨q, hq, rfl⟩ := List.mem_map.mp (show w ∈ r.map fun q => q.1 / q.2 from hw)
    have := four_key (h.1 q hq).1.1 (h.1 q hq).1.2.1 (h.1 q hq).2
    exact ⟨this.1, this.2.1⟩
  · have hw' : (r.map fun q => q.1 / q.2)[i]? = some w := hw
    rw [List.getElem?_map] at hw'
    cases eq : r[i]? with
    | none => rw [eq] at hw'; cases hw'
    | some q =>
      rw [eq] at hw'
      have hw' : q.1 / q.2 = w := Option.some.inj hw'
      have hq := List.mem_of_getElem? eq
      have h4 := four_key (h.1 q hq).1.1 (h.1 q hq).1.2.1 (h.1 q hq).2
      by_cases hlt : w < 4
      · exact .inl hlt
      · right
        rw [e2, head_ord (keys_nn hP)]
        refine mem_ixs.mpr ⟨i, ?_, rfl⟩
        rw [List.getElem?_map, eq]
        show some (keyQ r q) = some 0
        rw [(key_zero hP hq).mpr (h4.2.2 (by omega))]
/-! ### put back -/
theorem back_cls {r : List (Int × Int)} (h : PosR r) {lot : List Int} (hl : ∀ c ∈ lot, 0 ≤ c ∧ c < r.length) (hp : lot.Pairwise (· < ·)) : clsOf (backF 0 r lot) = putOf (clsOf r) lot := by
  have hB := pos_B h
  rw [back_eq lot 0 r]
  have e := cls_of (List.zipIdx r 0) (fun p => if (p.2 : Int) ∈ lot then (0, 1) else p.1) (fun p => if (p.2 : Int) ∈ lot then 0 else numQ r p.1) hB fun p hp => by
    have hm : p.1 ∈ r := by
      obtain ⟨x, j⟩ := p
      exact (List.mem_zipIdx hp).2.2 ▸ List.getElem_mem _
    by_cases hi : (p.2 : Int) ∈ lot
    · simp only [if_pos hi]
      exact ⟨by decide, by unfold Is; simp⟩
    · simp only [if_neg hi]
      exact ⟨(h _ hm).2, is_num h hm⟩
  rw [e]
  have ec := cls_eq h
  have lk : (r.map (keyQ r)).length = r.length := List.length_map ..
  unfold putOf
  rw [ec]
  refine Prod.ext ?_ ?_
  · show _ = lowerF 0 (r.map fun q => numQ r q / prodB r) lot
    rw [lower_eq]
    refine List.map_congr_left fun p _ => ?_
    by_cases hi : (p.2 : Int) ∈ lot
    · rw [if_pos hi, if_pos hi, Int.zero_ediv]
    · rw [if_neg hi, if_neg hi]
  · have ez : (List.zipIdx r 0).map (fun p => (if (p.2 : Int) ∈ lot then 0 else numQ r p.1) % prodB r) = zeroK (r.map (keyQ r)) lot := by
      unfold zeroK
      rw [List.zipIdx_map, List.map_map]
      refine List.map_congr_left fun p _ => ?_
      show (if (p.2 : Int) ∈ lot then 0 else numQ r p.1) % prodB r = if (p.2 : Int) ∈ lot then 0 else keyQ r p.1
      by_cases hi : (p.2 : Int) ∈ lot
      · rw [if_pos hi, if_pos hi, Int.zero_emod]
      · rw [if_neg hi, if_neg hi]
        rfl
    show ordOf ((List.zipIdx r 0).map _) = _
    rw [ez]
    exact ord_put (keys_nn h) (fun c hc => by rw [lk]; exact hl c hc) hp
end K9

namespace K9
open PySem PySem.Spec PyProof.Rows L2 KD
open Evl (Ex sq_of st_of fresh_back ex_l ex_t)
/-! ### to_next, cq_of -/
theorem ok2_low {n : Nat} {t b : Int} (h0 : 0 ≤ t) (hb : 0 < b) (ht : Sm n t) (hs : Sm n b) : Ok2 n (low t b) := by
  have hg := gcdI_pos (a := (t.natAbs : Int)) hb
  have h1 : 0 ≤ t / gcdI (t.natAbs : Int) b := Int.ediv_nonneg h0 (by omega)
  have h2 : b / gcdI (t.natAbs : Int) b ≤ b := Int.ediv_le_self _ (by omega)
  have h3 : 0 < b / gcdI (t.natAbs : Int) b := Int.ediv_pos_of_pos_of_dvd hb (by omega) (by
    unfold gcdI
    have := Nat.gcd_dvd_right ((t.natAbs : Int).toNat) b.toNat
    have h := Int.natCast_dvd_natCast.mpr this
    rwa [show ((b.toNat : Nat) : Int) = b by omega] at h)
  exact ⟨h1, h3, Sm.le h1 (Int.ediv_le_self _ h0) ht, Sm.le (Int.le_of_lt h3) h2 hs⟩
theorem ok2_res {n : Nat} {q : Int × Int} (h : Ok2 n q) : Ok2 n (resQ q) := by
  have h1 := Int.emod_nonneg q.1 (show q.2 ≠ 0 by have := h.2.1; omega)
  have h2 := Int.emod_lt_of_pos q.1 h.2.1
  exact ok2_low h1 h.2.1 (Sm.le h1 (by omega) h.2.2.2) h.2.2.2
theorem Ok2.mono {m n : Nat} {q : Int × Int} (h : Ok2 m q) (hm : m ≤ n) : Ok2 n q := ⟨h.1, h.2.1, h.2.2.1.mono hm, h.2.2.2.mono hm⟩
def greatF (l : List (Int × Int)) : Int × Int := l.foldl (fun g q => if leQ g q = true then q else g) (0, 1)
theorem greatF_app (l : List (Int × Int)) (q : Int × Int) : greatF (l ++ [q]) = if leQ (greatF l) q = true then q else greatF l := by
  unfold greatF
  rw [List.foldl_append]
  rfl
theorem greatF_ok {n : Nat} (hn : 1 ≤ n) : ∀ (l : List (Int × Int)), (∀ q ∈ l, Ok2 n q) → Ok2 n (greatF l) := by
  have h : ∀ (l : List (Int × Int)) (g : Int × Int), (∀ q ∈ l, Ok2 n q) → Ok2 n g → Ok2 n (l.foldl (fun g q => if leQ g q = true then q else g) g) := by
    intro l
    induction l with
    | nil => intro g _ h; exact h
    | cons q r ih =>
      intro g hl hg
      rw [List.foldl_cons]
      refine ih _ (fun x hx => hl x (List.mem_cons_of_mem _ hx)) ?_
      split
      · exact hl q (List.mem_cons_self ..)
      · exact hg
  intro l hl
  have h1 : Sm n 1 := Sm.mono (m := 1) (by unfold Sm; decide) hn
  have h0 : Sm n 0 := Sm.mono (m := 1) (by unfold Sm; decide) hn
  exact h l (0, 1) hl ⟨by decide, by decide, h0, h1⟩
def leftW (r : List (Int × Int)) : Int × Int := low ((greatF (r.map resQ)).2 - (greatF (r.map resQ)).1) (greatF (r.map resQ)).2
def waitW (r : List (Int × Int)) : (Int × Int) × Bool := if (0, 1) ∈ r.map resQ then (mulQ (leftW r) (1, 2), false) else (leftW r, true)
theorem eqv_fr (a b : Int × Int) : PyData.eqv (fr a) (fr b) = decide (a = b) := by
  obtain ⟨a1, a2⟩ := a
  obtain ⟨b1, b2⟩ := b
  show ((a1 == b1) && ((a2 == b2) && true)) = _
  by_cases h1 : a1 = b1 <;> by_cases h2 : a2 = b2 <;> simp [h1, h2]
theorem can_fr (q : Int × Int) : PyData.canLay0 (fr q) = true := by simp [fr, PyData.canLay0, PyData.canLayAll0]
theorem dep_fr (q : Int × Int) : PyData.depth (fr q) ≤ 3 := by simp [fr, PyData.depth, PyData.depthAll]
theorem sh_frs (l : List (Int × Int)) : SeqAt.shaped (.list (l.map fr)) = true := sh_of (by rw [PyData.canLay0]; exact canAll_map _ can_fr l) (by
  rw [PyData.depth]
  have := depthAll_map fr 3 dep_fr l
  omega)
theorem any_fr (l : List (Int × Int)) (q : Int × Int) : (l.map fr).any (fun z => PyData.eqv z (fr q)) = decide (q ∈ l) := by
  induction l with
  | nil => rfl
  | cons x r ih =>
    rw [List.map_cons, List.any_cons, ih, eqv_fr]
    by_cases h : x = q
    · simp [h]
    · have h' : ¬ q = x := fun z => h z.symm
      simp [h, h']
section
variable {P : Program} {w : World} {K : PySem.W.Frag} {mg : Str → Option Value} {base : Heap} {f : Addr} {fd : FuncData}
def FNext (ds : List PyData) (d : PyData) : Prop := ∃ r : List (Int × Int), ds = [rds r] ∧ (∀ q ∈ r, Ok2 200 q) ∧ r.length ≤ 1000 ∧ d = .tuple [fr (waitW r).1, .bool (waitW r).2]
theorem fr_at {l : List (Int × Int)} {i : Nat} {d : PyData} (h : (l.map fr)[i]? = some d) : ∃ q, l[i]? = some q ∧ d = fr q := by
  rw [List.getElem?_map] at h
  cases e : l[i]? with
  | none => rw [e] at h; cases h
  | some o =>
    rw [e] at h
    exact ⟨o, rfl, (Option.some.inj h).symm⟩
theorem ok_to_next [B : Bl mg] (D : C8.Def K mg "_law_to_next" (topS 53) f fd) (b : Binds K fd ["_law_readings"] []) (c1 : C8.Cal P w K mg base 2 "_law_cq_rest" (spD K FRest) []) (c2 : C8.Cal P w K mg base 1 "_law_fq_is_most" (spD K FMost) []) (c3 : C8.Cal P w K mg base 1 "_law_fq_low" (spD K FLowest) [])
    (c4 : C8.Cal P w K mg base 2 "_law_fq_times" (spD K FMul) []) : C8.Cal P w K mg base 3 "_law_to_next" (spD K FNext) [] := by
  refine def_ok (N := ["_law_readings", "_law_one", "_law_rests", "_law_greatest", "_law_left"]) D b (by decide +kernel) (fun ds d h => by obtain ⟨a, rfl, _⟩ := h; rfl) ?_
  rintro X rfl rfl rfl rfl rfl C H vs ds d En hv hF q qn
  obtain ⟨r, rfl, hr, hl, rfl⟩ := hF
  obtain ⟨v0, rfl, d0⟩ := dpa1 hv
  refine sb_cons (st_asgLc1 (j := 2) (own := [("_law_one", 1)]) 1 (fun _ => true) (onQ fun q => fr (resQ q)) (ei_tup (ed_var 0 rfl d0) (noL_rds r)) (fun d hd v H' q' dv => ⟨bt_nil, fun _ s0 H0 A cl fp C' => ?_⟩) (fun d hd => ?_) (fun pl xs H1 hpl q1 hx1 dx1 => ?_) (by rw [List.length_map]; omega))
  · obtain ⟨o, ho, rfl⟩ := List.mem_map.mp hd
    exact ed_call c1 (ea_cons (ed_var 1 rfl dv) ea_nil) ⟨o, rfl, (hr o ho).2.1, (hr o ho).2.2.2.mono (by decide), rfl⟩
  · obtain ⟨o, ho, rfl⟩ := List.mem_map.mp hd
    rfl
  rw [filter_yes, rds_map r resQ _ (fun q => rfl)] at dx1
  have hR : ∀ q ∈ r.map resQ, Ok2 200 q := fun q hq => by
    obtain ⟨o, ho, rfl⟩ := List.mem_map.mp hq
    exact ok2_res (hr o ho)
  refine sb_cons (st_asg 3 (ed_tup (ea_cons ed_int (ea_cons ed_int ea_nil))) fun v3 H2 q2 d3 => ?_)
  have dL : Dp X.K H2 (.ref pl) (.list ((r.map resQ).map fr)) := q2.dp (.lst (sq_of hx1) dx1)
  refine sb_cons (st_for (ei_list (ed_var 2 rfl dL)) fun H3 q3 => ⟨fun i σ' H' => ∃ y1 y3, σ' = [some v0, y1, some (.ref pl), some y3, none] ∧ Ex H3 H' ∧ Dp X.K H' y3 (fr (greatF ((r.map resQ).take i))), ⟨none, v3, rfl, Ex.refl _, q3.dp d3⟩, fun i σ' H' h => by obtain ⟨_, _, _, h, _⟩ := h; exact h, fun i d v σ' H' H'' hd hP q4 dv => ?_, fun σ' H4 hP => ?_⟩)
  · obtain ⟨y1, y3, rfl, hE, dg⟩ := hP
    obtain ⟨o, ho, rfl⟩ := fr_at hd
    have hoR := hR o (List.mem_of_getElem? ho)
    have hgR := greatF_ok (n := 200) (by decide) ((r.map resQ).take i) fun q h => hR q (List.mem_of_mem_take h)
    refine tg_name 1 (sb_one (st_asg 3 (ed_if (t := leQ (greatF ((r.map resQ).take i)) o) (et_val (ed_call c2 (ea_cons (ed_var 3 rfl (q4.dp dg)) (ea_cons (ed_var 1 rfl dv) ea_nil)) ⟨_, o, rfl, hgR.mono (by decide), hoR.mono (by decide), rfl⟩)) (fun h => ED.is (ed_var 1 rfl dv) (d1 := fr (greatF ((r.map resQ).take (i + 1)))) ?_) fun h => ED.is (ed_var 3 rfl (q4.dp dg)) ?_) fun v5 H5 q5 d5 => ⟨_, v5, rfl, (hE.trans q4).trans q5, d5⟩))
    · rw [List.take_add_one, ho]
      show _ = fr (greatF ((r.map resQ).take i ++ [o]))
      rw [greatF_app, if_pos h]
    · rw [List.take_add_one, ho]
      show _ = fr (greatF ((r.map resQ).take i ++ [o]))
      rw [greatF_app, if_neg (by rw [h]; exact Bool.false_ne_true)]
  · obtain ⟨y1, y3, rfl, hE, dg⟩ := hP
    rw [List.length_map, List.take_length] at dg
    have hg := greatF_ok (n := 200) (by decide) (r.map resQ) hR
    have Q4 := ((q1.trans q2).trans q3).trans hE
    refine sb_cons (st_asg 4 (ed_call c3 (ea_cons (ed_bin od_sub (ed_ixT (ed_var 3 rfl dg) ed_int rfl) (ed_ixT (ed_var 3 rfl dg) ed_int rfl)) (ea_cons (ed_ixT (ed_var 3 rfl dg) ed_int rfl) ea_nil)) ⟨_, _, rfl, hg.2.1, hg.2.2.2.mono (by decide), rfl⟩) fun v5 H5 q5 d5 => ?_)
    refine sb_cons (st_if (t := decide ((0, 1) ∈ r.map resQ)) (ET.is (et_cmp (od_inD (d1 := fr (0, 1)) (sh_fr _) (sh_frs (r.map resQ))) (ed_tup (ea_cons ed_int (ea_cons ed_int ea_nil))) (ed_var 2 rfl ((q3.trans (hE.trans q5)).dp dL))) (any_fr _ _)) (fun h H6 q6 => ?_) fun h H6 q6 => sb_nil ?_)
    · have hlo : Ok2 1000 (leftW r) ∨ True := .inr trivial
      have hin := of_decide_eq_true h
      have hw : waitW r = (mulQ (leftW r) (1, 2), false) := by
        unfold waitW
        rw [if_pos hin]
      rw [hw] at q
      have hle : 0 ≤ (greatF (r.map resQ)).2 - (greatF (r.map resQ)).1 := by
        have h2 : ∀ l : List (Int × Int), (∀ q ∈ l, q.1 ≤ q.2) → (greatF l).1 ≤ (greatF l).2 := by
          intro l
          have h : ∀ (l : List (Int × Int)) (g : Int × Int), (∀ q ∈ l, q.1 ≤ q.2) → g.1 ≤ g.2 → (l.foldl (fun g q => if leQ g q = true then q else g) g).1 ≤ (l.foldl (fun g q => if leQ g q = true then q else g) g).2 := by
            intro l
            induction l with
            | nil => intro g _ h; exact h
            | cons q r ih =>
              intro g hl hg
              rw [List.foldl_cons]
              refine ih _ (fun x hx => hl x (List.mem_cons_of_mem _ hx)) ?_
              split
              · exact hl q (List.mem_cons_self ..)
              · exact hg
          exact fun hl => h l (0, 1) hl (by decide)
        have := h2 (r.map resQ) fun q hq => by
          obtain ⟨o, ho, rfl⟩ := List.mem_map.mp hq
          have h1 := Int.emod_lt_of_pos o.1 (hr o ho).2.1
          have hgp := gcdI_pos (a := ((o.1 % o.2).natAbs : Int)) (hr o ho).2.1
          exact Int.ediv_le_ediv hgp (by omega)
        omega
      have hls : Ok2 1000 (leftW r) := by
        refine ok2_low hle hg.2.1 (Sm.le hle ?_ (hg.2.2.2.mono (by decide))) (hg.2.2.2.mono (by decide))
        have := hg.1
        omega
      exact sb_one (st_ret (ed_tup (ea_cons (ed_call c4 (ea_cons (ed_var 4 rfl (q6.dp d5)) (ea_cons (ED.is (ed_tup (ea_cons ed_int (ea_cons ed_int ea_nil))) (d1 := fr (1, 2)) rfl) ea_nil)) ⟨leftW r, (1, 2), rfl, hls, ⟨by decide, by decide, by unfold Sm; decide, by unfold Sm; decide⟩, rfl⟩) (ea_cons ed_bl ea_nil))) fun v H7 q7 dv => q v H7 (((Q4.trans q5).trans q6).trans q7) dv)
    · have hin := of_decide_eq_false h
      have hw : waitW r = (leftW r, true) := by
        unfold waitW
        rw [if_neg hin]
      rw [hw] at q
      exact sb_one (st_ret (ed_tup (ea_cons (ed_var 4 rfl (q6.dp d5)) (ea_cons ed_bl ea_nil))) fun v H7 q7 dv => q v H7 (((Q4.trans q5).trans q6).trans q7) dv)
end
end K9

namespace K9
open PySem PySem.Spec PyProof.Rows L2 KD
open Evl (Ex sq_of st_of fresh_back ex_l ex_t)
/-! ### cq_of -/
def keyD (B : Int) : PyData → Int
  | .tuple [.int a, .int b] => a * B / b
  | _ => 0
theorem fst_idx (l : List (Int × Int)) (q : Int × Int) : ((enD 0 (l.map fr)).filter (fun d => match d with | .tuple [_, .tuple [.int a, .int b]] => decide ((a, b) = q) | _ => false)).map (fun d => match d with | .tuple [a, _] => a | _ => PyData.none) = (idxQ l q).map PyData.int := by
  have h : ∀ (n : Nat) (l : List (Int × Int)), ((enD n (l.map fr)).filter (fun d => match d with | .tuple [_, .tuple [.int a, .int b]] => decide ((a, b) = q) | _ => false)).map (fun d => match d with | .tuple [a, _] => a | _ => PyData.none) = (idxP n l q).map PyData.int := by
    intro n l
    induction l generalizing n with
    | nil => rfl
    | cons x r ih =>
      obtain ⟨a, b⟩ := x
      show (List.filter _ (PyData.tuple [.int n, .tuple [.int a, .int b]] :: enD (n + 1) (r.map fr))).map _ = _
      rw [List.filter_cons]
      by_cases hx : (a, b) = q
      · rw [if_pos (by simpa using hx), List.map_cons, ih]
        show _ = (if (a, b) = q then (n : Int) :: idxP (n + 1) r q else idxP (n + 1) r q).map PyData.int
        rw [if_pos hx]
        rfl
      · rw [if_neg (by simpa using hx), ih]
        show _ = (if (a, b) = q then (n : Int) :: idxP (n + 1) r q else idxP (n + 1) r q).map PyData.int
        rw [if_neg hx]
  exact h 0 l
theorem someF_mem (l : List (Int × Int)) : ∀ q, q ∈ someF l → q ∈ l ∧ 0 < q.1 := by
  have h : ∀ (l acc : List (Int × Int)) (q : Int × Int), q ∈ l.foldl (fun acc q => if 0 < q.1 ∧ q ∉ acc then acc ++ [q] else acc) acc → q ∈ acc ∨ (q ∈ l ∧ 0 < q.1) := by
    intro l
    induction l with
    | nil => intro acc q h; exact .inl h
    | cons x r ih =>
      intro acc q h
      rw [List.foldl_cons] at h
      rcases ih _ q h with h | h
      · split at h
        · rename_i hx
          rcases List.mem_append.mp h with h | h
          · exact .inl h
          · rw [List.mem_singleton.mp h]
            exact .inr ⟨List.mem_cons_self .., hx.1⟩
        · exact .inl h
      · exact .inr ⟨List.mem_cons_of_mem _ h.1, h.2⟩
  intro q hq
  rcases h l [] q hq with h | h
  · cases h
  · exact h
theorem someF_len (l : List (Int × Int)) : (someF l).length ≤ l.length := by
  have h : ∀ (l acc : List (Int × Int)), (l.foldl (fun acc q => if 0 < q.1 ∧ q ∉ acc then acc ++ [q] else acc) acc).length ≤ acc.length + l.length := by
    intro l
    induction l with
    | nil => intro acc; exact Nat.le_refl _
    | cons x r ih =>
      intro acc
      rw [List.foldl_cons]
      refine Nat.le_trans (ih _) ?_
      split
      · simp only [List.length_append, List.length_cons, List.length_nil]; omega
      · rw [List.length_cons]; omega
  have := h l []
  unfold someF
  simpa using this
theorem sm_prod2 : ∀ (r : List (Int × Int)) (n : Nat) (b : Int), (∀ q ∈ r, Ok2 1000 q) → Sm n b → Sm (n + 1000 * r.length) (r.foldl (fun b q => b * q.2) b)
  | [], n, b, _, h => h
  | q :: r, n, b, hr, h => by
    have h2 := hr q (List.mem_cons_self ..)
    have h1 := sm_prod2 r (n + 1000) (b * q.2) (fun x hx => hr x (List.mem_cons_of_mem _ hx)) (h.mul h2.2.2.2)
    rw [show n + 1000 + 1000 * r.length = n + 1000 * (q :: r).length by rw [List.length_cons]; omega] at h1
    exact h1
theorem sm_prodQ {r : List (Int × Int)} (h : ∀ q ∈ r, Ok2 1000 q) (hl : r.length ≤ 3) : Sm 3001 (prodB r) :=
  (sm_prod2 r 1 1 h (by unfold Sm; decide)).mono (by omega)
section
variable {P : Program} {w : World} {K : PySem.W.Frag} {mg : Str → Option Value} {base : Heap} {f : Addr} {fd : FuncData}
def FCq (ds : List PyData) (d : PyData) : Prop := ∃ r : List (Int × Int), ds = [rds r] ∧ (∀ q ∈ r, Ok2 200 q) ∧ r.length ≤ 3 ∧ d = clsD (clsOf r)
theorem ok_cq_of [B : Bl mg] {T : List (Addr × Str)} {c Pt : Addr} (TB : LamX.TabB base mg c Pt) (hcode : fd.code = .ref c) (hm : (Pt, (Str.ofString "_law_cq_of" ++ Str.ofString ".<locals>.") ++ Str.ofString "<lambda>") ∈ T) (hu : ∀ p ∈ T, p.1 = Pt → p.2 = (Str.ofString "_law_cq_of" ++ Str.ofString ".<locals>.") ++ Str.ofString "<lambda>")
    (D : C8.Def K mg "_law_cq_of" (topS 50) f fd) (b : Binds K fd ["_law_readings"] []) (c1 : C8.Cal P w K mg base 2 "_law_cq_rest" (spD K FRest) []) : C8.Cal P w K mg base 4 "_law_cq_of" (spT T K FCq) [] := by
  refine def_okG (N := ["_law_readings", "_law_one", "_law_rests", "_law_some", "_law_top", "_law_bottom", "_law_order", "_law_common", "_law_clock", "_law_rest"]) D b (by decide +kernel) (fun vs H Q E h => by obtain ⟨ds, d, h1, ⟨r, rfl, _⟩, _⟩ := h; exact dpa_len h1) ?_
  rintro X rfl rfl rfl rfl rfl hXc hXq C H vs Q E hsp
  obtain ⟨ds, d, hv, ⟨r, rfl, hr, hl, rfl⟩, hT, q⟩ := hsp
  obtain ⟨v0, rfl, d0⟩ := dpa1 hv
  rw [hcode] at hXc
  rw [← hXq] at hm hu
  have hR : ∀ q ∈ r.map resQ, Ok2 200 q := fun q hq => by
    obtain ⟨o, ho, rfl⟩ := List.mem_map.mp hq
    exact ok2_res (hr o ho)
  have lR : (r.map resQ).length = r.length := List.length_map ..
  -- rests, some
  refine sb_cons (st_parC ((el_map1 (own := [("_law_one", 1)]) 1 (onQ fun q => fr (resQ q)) (ei_tup (ed_var 0 rfl d0) (noL_rds r)) (fun d hd v H' q' dv s0 H0 A cl fp C' => ?_) (fun d hd => ?_) (by rw [List.length_map]; omega)).go fun pr xr H1 hpr q1 hxr dxr =>
    (el_lst ea_nil).go fun ps xs0 H2 hps q2 hxs dxs rr hrr => tg_twoV 2 3 upd_same ?_) (swap_cell1 (C.cel _ (by decide +kernel))))
  · obtain ⟨o, ho, rfl⟩ := List.mem_map.mp hd
    exact ed_call c1 (ea_cons (ed_var 1 rfl dv) ea_nil) ⟨o, rfl, (hr o ho).2.1, (hr o ho).2.2.2.mono (by decide), rfl⟩
  · obtain ⟨o, ho, rfl⟩ := List.mem_map.mp hd
    rfl
  rw [rds_map r resQ _ (fun q => rfl)] at dxr
  cases dxs
  have q3 : Ex H2 (upd H2 rr (.tup [.ref pr, .ref ps])) := Evl.Ex.new hrr
  generalize upd H2 rr (.tup [.ref pr, .ref ps]) = H3 at q3
  have npr : pr ≠ ps := ne_of_none hxr hps
  have nH : H ps = none := fresh_back q1 hps
  have hxr3 := q3 pr _ (q2 pr _ hxr)
  have dxr3 := (q2.trans q3).dpa dxr
  -- the loop: some
  refine sb_cons (st_for (ei_listP (r := pr) (xs := xr) (fun H1' e Q' k => rn_var 2 rfl (k H1' (Evl.Ex.refl _))) (sq_of hxr3) dxr3 (noLs_map fr noL_fr _)) fun H4 q4 => ⟨fun i σ' H' => ∃ y1 ys, σ' = [some v0, y1, some (.ref pr), some (.ref ps), none, none, none, none, none, none] ∧ ExT H4 H' ∧ Ex H H' ∧ H' pr = some (.lst xr) ∧ H' ps = some (.lst ys) ∧ DpAll X.K H' ys ((someF ((r.map resQ).take i)).map fr),
    ⟨none, [], rfl, ExT.refl _, ((q1.trans q2).trans q3).trans q4, q4 pr _ hxr3, q4 ps _ (q3 ps _ hxs), .nil⟩, fun i σ' H' h => by obtain ⟨_, _, _, h, _, hp, _⟩ := h; exact ⟨h, sq_of hp⟩, fun i d v σ' H' H'' hd hP q5 dv => ?_, fun σ' H5 hP => ?_⟩)
  · obtain ⟨y1, ys, rfl, hE, hX, hpr', hps', dys⟩ := hP
    obtain ⟨o, ho, rfl⟩ := fr_at hd
    have hi : i < r.length := by rw [← lR]; exact (List.getElem?_eq_some_iff.mp ho).1
    have et : someF ((r.map resQ).take (i + 1)) = if 0 < o.1 ∧ o ∉ someF ((r.map resQ).take i) then someF ((r.map resQ).take i) ++ [o] else someF ((r.map resQ).take i) := by
      rw [List.take_add_one, ho]
      exact someF_app _ _
    have hps2 := q5 ps _ hps'
    refine tg_name 1 (sb_one (st_if (t := decide (0 < o.1) && !decide (o ∈ someF ((r.map resQ).take i))) (et_w (ew_and (et_cmp od_gt (ed_ixT (ed_var 1 rfl dv) ed_int rfl) ed_int) fun _ => ew_and1 (ET.is (et_cmp (od_notInD (sh_fr o) (sh_frs _)) (ed_var 1 rfl dv) (ed_var 3 rfl (.lst (sq_of hps2) (q5.dpa dys)))) (by rw [any_fr])))) (fun h H6 q6 => ?_) fun h H6 q6 => sb_nil ?_))
    · have h' : 0 < o.1 ∧ o ∉ someF ((r.map resQ).take i) := by
        simpa using h
      have hps6 := q6 ps _ hps2
      refine sb_one (st_exprR (of_pe (pe_bm PySem.F.plainAttrs_list PySem.F.slot_list_append PySem.F.type_list_append mt_append (pe_run _) (pa_run _)) (rn_var 3 rfl ⟨.inl ⟨rfl, _, sq_of hps6⟩, (ea_cons (ed_var 1 rfl (q6.dp dv)) ea_nil).go fun vs H7 q7 d7 => ?_⟩)))
      obtain ⟨v7, rfl, d7b⟩ := dpa1 d7
      have hps7 := q7 ps _ hps6
      have hX7 : Ex H H7 := ((hX.trans q5).trans q6).trans q7
      refine ⟨ps, _, v7, rfl, rfl, hps7, Evl.sz_lt (by
        rw [dpa_len dys, List.length_map]
        have := someF_len ((r.map resQ).take i)
        rw [List.length_take] at this
        omega), some v, ys ++ [v7], rfl, (((hE.trans q5.t).trans q6.t).trans q7.t).trans (ExT.lst hps7), Evl.Ex.mut hX7 nH, ?_, upd_same, ?_⟩
      · rw [upd_ne npr]
        exact q7 pr _ (q6 pr _ (q5 pr _ hpr'))
      · rw [et, if_pos h', List.map_append]
        exact dpa_exT (ExT.lst hps7) _ _ (noLs_iff.mpr fun d hd => by
          rcases List.mem_append.mp hd with hd | hd
          · obtain ⟨o, _, rfl⟩ := List.mem_map.mp hd
            rfl
          · obtain ⟨o, _, rfl⟩ := List.mem_map.mp hd
            rfl) (dpa_app (q7.dpa (q6.dpa (q5.dpa dys))) (dpa_one d7b))
    · have h' : ¬ (0 < o.1 ∧ o ∉ someF ((r.map resQ).take i)) := fun z => by
        simp [z.1, z.2] at h
      refine ⟨some v, ys, rfl, (hE.trans q5.t).trans q6.t, (hX.trans q5).trans q6, q6 pr _ (q5 pr _ hpr'), q6 ps _ hps2, ?_⟩
      rw [et, if_neg h']
      exact q6.dpa (q5.dpa dys)
  obtain ⟨y1, ys, rfl, hE5, hX5, hpr5, hps5, dys⟩ := hP
  rw [List.length_map, List.take_length] at dys
  have dxr5 := dpa_exT (q4.t.trans hE5) _ _ (noLs_map fr noL_fr _) dxr3
  have dR : Dp X.K H5 (.ref pr) (.list ((r.map resQ).map fr)) := .lst (sq_of hpr5) dxr5
  have dS : Dp X.K H5 (.ref ps) (.list ((someF (r.map resQ)).map fr)) := .lst (sq_of hps5) dys
  have sS : ∀ q ∈ someF (r.map resQ), Ok2 200 q := fun q hq => hR q (someF_mem _ q hq).1
  have lS : (someF (r.map resQ)).length ≤ 3 := by
    have := someF_len (r.map resQ)
    omega
  -- common
  refine sb_cons (st_asg 7 ed_int fun v7 H6 q6 d7 => ?_)
  cases d7
  refine sb_cons (st_for (ei_list (ed_var 3 rfl (q6.dp dS))) fun H7 q7 => ⟨fun i σ' H' => ∃ y4 y5, σ' = [some v0, y1, some (.ref pr), some (.ref ps), y4, y5, none, some (.int (prodB ((someF (r.map resQ)).take i))), none, none] ∧ Ex H7 H', ⟨none, none, rfl, Evl.Ex.refl _⟩, fun i σ' H' h => by obtain ⟨_, _, _, h⟩ := h; exact h, fun i d v σ' H' H'' hd hP q8 dv => ?_, fun σ' H8 hP => ?_⟩)
  · obtain ⟨y4, y5, rfl, hE⟩ := hP
    obtain ⟨o, ho, rfl⟩ := fr_at hd
    have hi := (List.getElem?_eq_some_iff.mp ho).1
    have hs : Sm 3001 (prodB ((someF (r.map resQ)).take i)) := sm_prodQ (fun q h => (sS q (List.mem_of_mem_take h)).mono (by decide)) (by rw [List.length_take]; omega)
    have et : prodB ((someF (r.map resQ)).take (i + 1)) = prodB ((someF (r.map resQ)).take i) * o.2 := by
      unfold prodB
      rw [List.take_add_one, ho, List.foldl_append]
      rfl
    refine tg_two 4 5 dv fun v4 v5 d4 d5 => sb_one (st_asg 7 (ed_bin (od_mul (hs.mulW (sS o (List.mem_of_getElem? ho)).2.2.2)) (ed_var 7 rfl (.int _)) (ed_var 5 rfl d5)) fun v9 H9 q9 d9 => ?_)
    cases d9
    exact ⟨some v4, some v5, by rw [et]; rfl, (hE.trans q8).trans q9⟩
  obtain ⟨y4, y5, rfl, hE8⟩ := hP
  rw [List.length_map, List.take_length]
  have hB : Sm 3001 (prodB (someF (r.map resQ))) := sm_prodQ (fun q h => (sS q h).mono (by decide)) lS
  generalize hBe : prodB (someF (r.map resQ)) = Bc at hB
  have Q8 := (q6.trans q7).trans hE8
  have XH8 : Ex H H8 := hX5.trans Q8
  -- sorted
  refine sb_cons (st_asgR 3 (rn_sortK (y := "_law_one") 7 (keyD Bc) (ed_var 3 rfl (Q8.dp dS)) TB hXc hm hu (hT.ext XH8) rfl (by rw [List.length_map]; omega) (by decide) (fun X' H' v d hK C' hd dv => ?_) (fun ds' pq xq H9 hp9 hs9 hN9 hT9 hx9 dx9 => ?_) (hnoN := fun d hd H1 H2 v e dv => dp_exN e d v dv)))
  · obtain ⟨o, ho, rfl⟩ := List.mem_map.mp hd
    have hok := sS o ho
    obtain ⟨t, xt, rfl, ht, hxt⟩ := dp_tup dv
    obtain ⟨u1, u2, rfl, e1, e2⟩ := dpa2 hxt
    cases e1
    cases e2
    rw [← hK] at ht
    have hix : ∀ (i : Int) (j : Nat) (z : Int) (p1 p2 p3 : Pos) (Q : VK), atI [V.int o.1, V.int o.2] i = some (.int z) → Q (.int z) H' → run X' (.Subscript (.Name "_law_one" p1) (.Constant (.int i) j p2) p3) [some (.ref t), some (.int Bc)] H' Q := fun i j z p1 p2 p3 Q ha hq =>
      of_pe (pe_ix ix_tup (pe_run _) (pe_run _) (by intro _ _; rfl)) (rn_var 0 rfl (of_pe pe_int ⟨t, _, i, .int z, rfl, rfl, ht, ha, hq⟩) (N := ["_law_one", "_law_common"]))
    refine of_pe (pe_op op_fdivW (pe_op op_mulW (pe_run _) (pe_run _)) (pe_run _)) (hix _ _ o.1 _ _ _ _ rfl (rn_var 1 rfl ⟨o.1, Bc, rfl, rfl, hok.2.2.1.mulW hB, hix _ _ o.2 _ _ _ _ rfl ⟨_, o.2, rfl, rfl, hok.2.2.2.divW hok.2.1, rfl, rfl⟩⟩))
  -- order
  obtain ⟨qs, pqs, eqs⟩ := perm_lift fr ds' (someF (r.map resQ)) hp9
  subst eqs
  have hqs : qs.Pairwise fun a b => a.1 * prodB (someF (r.map resQ)) / a.2 ≤ b.1 * prodB (someF (r.map resQ)) / b.2 := by
    rw [List.pairwise_map] at hs9
    rw [hBe]
    exact hs9
  have hcq := cq_eq r (fun q hq => ⟨(hr q hq).1, (hr q hq).2.1⟩) qs pqs hqs
  have lq : qs.length ≤ 3 := by rw [pqs.length_eq]; exact lS
  have dR9 := dp_exN hN9 _ _ (Q8.dp dR)
  have d09 := dp_exN hN9 _ _ (XH8.dp d0)
  refine sb_cons (st_asgLc1 (j := 6) (own := [("_law_one", 1)]) 1 (fun _ => true) (onQ fun q => igs (idxQ (r.map resQ) q)) (ei_list (ds := ((0, 1) :: qs).map fr) (EL.ed (EL.is (el_cat (EL.pl (el_lst (ea_cons (ed_tup (ea_cons ed_int (ea_cons ed_int ea_nil))) ea_nil))) (pl_var 3 rfl hx9 dx9) (by rw [List.length_map]; simp only [List.length_cons, List.length_nil]; omega)) (by rfl)))) (fun d hd v H' q' dv => ⟨bt_nil, fun _ s0 H0 A cl fp C' => ?_⟩) (fun d hd => ?_) (fun po xo H10 hpo q10 hxo dxo => ?_) (by rw [List.length_map, List.length_cons]; omega))
  · obtain ⟨o, ho, rfl⟩ := List.mem_map.mp hd
    refine ed_tupL (EL.ed (EL.is (el_lc2 (own := [("_law_clock", 8), ("_law_rest", 9)]) 8 9 (fun d => match d with | .tuple [_, .tuple [.int a, .int b]] => decide ((a, b) = o) | _ => false) (fun d => match d with | .tuple [a, _] => a | _ => PyData.none) (ei_enumL (ed_var 2 rfl (q'.dp dR9))) (fun d hd => en_pair hd) (fun d1 d2 hd v1 v2 H'' q'' e1 e2 => ?_) (fun d hd => ?_) (by rw [enD_len, List.length_map]; omega)) (fst_idx _ o)))
    · obtain ⟨i, x, rfl, rfl, _⟩ := fr_pair hd
      exact ⟨bt_one fun s0 H0 A cl fp C' => ET.is (et_cmp (od_eqD (sh_fr x) (sh_fr o)) (ed_var 9 rfl e2) (ed_var 1 rfl (q''.dp dv))) (eqv_fr x o), fun _ s0 H0 A cl fp C' => ed_var 8 rfl e1⟩
    · obtain ⟨d1, d2, rfl⟩ := en_pair hd
      obtain ⟨i, x, rfl, rfl, _⟩ := fr_pair hd
      rfl
  · obtain ⟨o, ho, rfl⟩ := List.mem_map.mp hd
    exact noL_ints _
  rw [filter_yes, List.map_map] at dxo
  have eo : List.map ((onQ fun q => igs (idxQ (r.map resQ) q)) ∘ fr) ((0, 1) :: qs) = (clsOf r).2.map igs := by
    rw [← hcq, List.map_map]
    rfl
  rw [eo] at dxo
  refine sb_one (st_ret (d := clsD (clsOf r)) (ED.is (ed_tup (ea_cons (ed_tupL (EL.ed (el_map2 (own := [("_law_top", 4), ("_law_bottom", 5)]) 4 5 (onQ fun q => .int (q.1 / q.2)) (ei_tup (ed_var 0 rfl (q10.dp d09)) (noL_rds r)) (fun d hd => ?_) (fun d1 d2 hd v1 v2 H' q' e1 e2 s0 H0 A cl fp C' => ?_) (fun d hd => ?_) (by rw [List.length_map]; omega)))) (ea_cons (ed_tupL (ed_var 6 rfl (.lst (sq_of hxo) dxo))) ea_nil))) ?_) fun v H11 q11 dv => q v H11 (((LamX.ExtN.of XH8).trans hN9).trans (LamX.ExtN.of (q10.trans q11))) (hT9.ext (q10.trans q11)) dv)
  · obtain ⟨o, ho, rfl⟩ := List.mem_map.mp hd
    exact ⟨_, _, rfl⟩
  · obtain ⟨o, ho, he⟩ := List.mem_map.mp hd
    obtain ⟨rfl, rfl⟩ := fr_inj he
    exact ed_toI (ed_bin (od_div (((hr o ho).2.2.2.mono (by decide : 200 ≤ 4000)).divW (hr o ho).2.1)) (ed_var 4 rfl e1) (ed_var 5 rfl e2))
  · obtain ⟨o, ho, rfl⟩ := List.mem_map.mp hd
    rfl
  · unfold clsD igs clsOf
    simp only [List.map_map]
    rfl
end
end K9

set_option exponentiation.threshold 5000
namespace K9
open PySem PySem.Spec PyProof.Rows L2 KD
open Evl (Ex sq_of st_of fresh_back ex_l ex_t)
/-! ### the dice -/
section
variable {T : List (Addr × Str)} {r : Addr} {H H' H1 H2 : Hp}
theorem tabs_lst {xs : List V} {o : HO} (h : H r = some (.lst xs)) (t : LamX.Tabs T H) : LamX.Tabs T (upd H r o) := fun p hp => by
  obtain ⟨ps, h1, h2, h3⟩ := t p hp
  refine ⟨ps, by rw [upd_ne (fun z => by rw [z, h] at h1; cases h1)]; exact h1, h2, fun pos cv hc => ?_⟩
  obtain ⟨c, e1, e2⟩ := h3 pos cv hc
  exact ⟨c, e1, by rw [upd_ne (fun z => by rw [z, h] at e2; unfold LamX.CodeO at e2; cases e2)]; exact e2⟩
theorem mv_set {xs : List V} {a b c : Int} (h : H r = some (.lst xs)) : Mv T r H (upd H r (.lst [.int a, .int b, .int c])) :=
  ⟨fun x o n e _ => by rw [upd_ne n]; exact e, fun _ => ⟨a, b, c, upd_same⟩, tabs_lst h⟩
/-- nothing is known there, but a table may lie there -/
def NT (H : Hp) (l : Addr) : Prop := ∀ o, H l = some o → ∃ ps, o = .tbl ps
theorem nt_none {l : Addr} (h : H l = none) : NT H l := fun o e => by rw [h] at e; cases e
theorem nt_mv {l : Addr} (m : Mv T r H H1) (d : Dice H r) (h : H1 l = none) : NT H l := fun o e => by
  by_cases z : l = r
  · obtain ⟨a, b, c, h2⟩ := m.dice d
    rw [z, h2] at h
    cases h
  · by_cases ht : ∃ p, o = .tbl p
    · exact ht
    · have := m.keep l o z e fun p hp => ht ⟨p, hp⟩
      rw [h] at this
      cases this
theorem nt_dice {l : Addr} (h : NT H l) (d : Dice H r) : l ≠ r := fun z => by
  obtain ⟨a, b, c, hr⟩ := d
  subst z
  obtain ⟨ps, e⟩ := h _ hr
  cases e
/-- another list is written -/
theorem mv_mut {l : Addr} {xs ys : List V} (m : Mv T r H H1) (d : Dice H r) (nl : NT H l) (h : H1 l = some (.lst xs)) : Mv T r H (upd H1 l (.lst ys)) := by
  have nr : l ≠ r := nt_dice nl d
  refine ⟨fun x o n e t => ?_, fun d' => ?_, fun t => tabs_lst h (m.tab t)⟩
  · have nx : x ≠ l := fun z => by
      subst z
      obtain ⟨ps, e2⟩ := nl _ e
      exact t ps e2
    rw [upd_ne nx]
    exact m.keep x o n e t
  · obtain ⟨a, b, c, hr⟩ := m.dice d'
    exact ⟨a, b, c, by rw [upd_ne (Ne.symm nr)]; exact hr⟩
theorem sql_mv {K : PySem.W.Frag} {a : Addr} {xs : List V} (m : Mv T r H H') (d : Dice H r) (ne : a ≠ r) (h : SqL K H a xs) : SqL K H' a xs := by
  rcases h with (h | ⟨o, h⟩) | h
  · exact .inl (.inl (m.keep a _ ne h fun ps z => by cases z))
  · exact .inl (.inr ⟨o, m.keep a _ ne h fun ps z => by cases z⟩)
  · exact .inr h
end
section
variable {X : Cx} {N : List Str} {sc : Scope} {k : Nat} {σ : L2.St} {H : Hp} {e a b : Expr} {es : List Expr} {d : PyData} {ds : List PyData} {x y : Str} {pos p py : Pos} {En : Ends}
theorem st_set [C : Cn X N sc k] (i : Nat) {jj : Int} {m : Nat} {p2 p3 : Pos} {r : Addr} {xs : List V} {j : Nat} (hv : σ[i]? = some (some (.ref r))) (he : ED X e σ H d) (hx : H r = some (.lst xs)) (hj : ixN xs.length jj = some j) (kq : ∀ v H1, Ex H H1 → Dp X.K H1 v d → En.nx σ (upd H1 r (.lst (xs.set j v))))
    (hN : N[i]? = some x := by rfl) (hs : visB sc x = true := by decide +kernel) (hw : swapsWithSole [.Subscript (.Name x p) (.Constant (.int jj) m p2) p3] e pos.line X.env = pure false := by rfl) (hw2 : swappedStores [.Subscript (.Name x p) (.Constant (.int jj) m p2) p3] e X.env = pure none := by rfl) : runS X (.Assign [.Subscript (.Name x p) (.Constant (.int jj) m p2) p3] e pos) En σ H :=
  of_ps (ps_asg (pe_run _) (pg_sub (pe_run _) (pe_run _) set_list) hw hw2) (he.go fun v H1 q dv => rn_var i hv (of_pe pe_int ⟨r, xs, jj, j, rfl, rfl, q r _ hx, hj, kq v H1 q dv⟩) hN hs)
theorem ra1 {Q : List V → Hp → Prop} (h : run X a σ H fun v H1 => Q [v] H1) (he : starEach [a] X.env = (false, eval a X.env) :: starEach [] X.env := by rfl) : runA X [a] σ H Q := of_pa (pa_cons (pe_run a) pa_nil he) h
theorem ra_ed {Q : List V → Hp → Prop} (ha : ED X a σ H d) (h : ∀ v H1, Ex H H1 → Dp X.K H1 v d → runA X es σ H1 fun vs H2 => Q (v :: vs) H2) (he : starEach (a :: es) X.env = (false, eval a X.env) :: starEach es X.env := by rfl) : runA X (a :: es) σ H Q := of_pa (pa_cons (pe_run a) (pa_run es) he) (ha.go h)
theorem ra_run {Q : List V → Hp → Prop} (h : run X a σ H fun v H1 => runA X es σ H1 fun vs H2 => Q (v :: vs) H2) (he : starEach (a :: es) X.env = (false, eval a X.env) :: starEach es X.env := by rfl) : runA X (a :: es) σ H Q := of_pa (pa_cons (pe_run a) (pa_run es) he) h
/-- xs.append(e) -/
theorem rn_app [C : Cn X N sc k] (i : Nat) {r : Addr} {xs : List V} {Q : VK} {apos : Pos} (hv : σ[i]? = some (some (.ref r))) (h : H r = some (.lst xs)) (ha : run X e σ H fun v H1 => ∃ xs1, H1 r = some (.lst xs1) ∧ xs1.length < 100000 ∧ Q .non (upd H1 r (.lst (xs1 ++ [v]))))
    (hN : N[i]? = some x := by rfl) (hs : visB sc x = true := by decide +kernel)
    (hbase : attributeBase (.Name x p) "append" X.env (eval (.Name x p) X.env) = eval (.Name x p) X.env := by rfl)
    (hfew : ((backTo pos (starEach [e] X.env)).all (fun x => !x.1) && (backToKw pos (keywordEach [] X.env)).all (fun x => x.1.isSome) && decide (([e] : List Expr).length + ([] : List Keyword).length + (if ([] : List Keyword).isEmpty then 0 else 1) < 30)) = true := by rfl)
    (hline : (apos.endLine == pos.line) = true := by rfl) (he : starEach [e] X.env = (false, eval e X.env) :: starEach [] X.env := by rfl) : run X (.Call (.Attribute (.Name x p) "append" apos) [e] [] pos) σ H Q :=
  of_pe (pe_bm PySem.F.plainAttrs_list PySem.F.slot_list_append PySem.F.type_list_append mt_append (pe_run _) (pa_run _) hbase hfew hline he rfl) (rn_var i hv ⟨.inl ⟨rfl, _, sq_of h⟩, ra1 ⟨fun pins s I => thn (ha.go pins s I) fun u s1 ⟨v, H1, I1, r1, xs1, h1, h2, h3⟩ => ⟨v, H1, I1, r1, r, xs1, v, rfl, rfl, h1, Evl.sz_lt h2, h3⟩⟩ he⟩ hN hs)
end
section
variable {P : Program} {w : World} {K : PySem.W.Frag} {mg : Str → Option Value} {base : Heap} {f : Addr} {fd : FuncData} {T : List (Addr × Str)}
/-- a fresh dice -/
def spDice (K : PySem.W.Frag) : Sp := fun vs H Q _ => ∃ (ns : List Int) (i : Int), DpAll K H vs [.list (ns.map PyData.int), .int i] ∧ 0 ≤ i ∧ ∀ r H', H r = none → Ex H H' → Dice H' r → Q (.ref r) H'
theorem ok_dice [B : Bl mg] (D : C8.Def K mg "_law_dice" (topS 40) f fd) (b : Binds K fd ["_law_script", "_law_spot"] []) : C8.Cal P w K mg base 1 "_law_dice" (spDice K) [] := by
  refine def_okG (N := ["_law_script", "_law_spot", "_law_cell", "_law_left"]) D b (by decide +kernel) (fun vs H Q E h => by obtain ⟨ns, i, h1, _⟩ := h; exact dpa_len h1) ?_
  rintro X rfl rfl rfl rfl rfl hXc hXq C H vs Q E hsp
  obtain ⟨ns, i, hv, hi, q⟩ := hsp
  obtain ⟨v0, v1, rfl, d0, d1⟩ := dpa2 hv
  have key : ∀ cell : Int, ∀ (v2 : V) (H1 : Hp), Ex H H1 → Dp X.K H1 v2 (.int cell) → runB X ((C8.fnBody (topS 40)).drop 1) { nx := fun _ H' => Q .non H', rt := Q } [some v0, some v1, some v2, none] H1 := by
    intro cell v2 H1 q1 d2
    refine sb_cons (st_asg 3 (ed_bin (od_mod (by decide)) (ed_max ed_int (ed_bin od_sub (ed_abs (ed_var 2 rfl d2)) (ed_bin (od_pow ⟨by decide, by decide, by decide⟩) ed_int ed_int))) (ed_bin (od_mul (Sm.mulW (m := 200) (n := 200) (by unfold Sm; decide) (by unfold Sm; decide))) (ed_bin (od_pow ⟨by decide, by decide, by decide⟩) ed_int ed_int) (ed_bin (od_pow ⟨by decide, by decide, by decide⟩) ed_int ed_int))) fun v3 H2 q2 d3 => ?_)
    refine sb_one (st_retL (el_lst (ea_cons (ed_var 3 rfl d3) (ea_cons (ed_bin od_add (ed_bin od_add (ed_bin od_add (ed_bin (od_mulS (.inr ⟨by decide, by decide⟩)) (ed_bin (od_mod (by decide)) (ed_abs (ed_var 2 rfl (q2.dp d2))) ed_int) ed_int) (ed_bin (od_mulS (.inl ⟨by decide, by decide⟩)) ed_int (ed_var 1 rfl ((q1.trans q2).dp d1))))
      (ed_bin (od_mulS (.inl ⟨by decide, by decide⟩)) ed_int (ed_toB (ed_cmp od_lt (ed_var 2 rfl (q2.dp d2)) ed_int)))) ed_int) (ea_cons ed_int ea_nil)))) fun r xs H3 hr q3 hx dx => ?_)
    have e := dpa_ints_eq (ns := [_, _, _]) dx
    subst e
    exact q r H3 (fresh_back (q1.trans q2) hr) ((q1.trans q2).trans q3) ⟨_, _, _, hx⟩
  have hlen : (ns.map PyData.int).length = ns.length := List.length_map ..
  by_cases h : i < ns.length
  · have hx : (ns.map PyData.int)[i.toNat]? = some (.int (ns[i.toNat]'(by omega))) := by
      rw [List.getElem?_map, List.getElem?_eq_getElem (by omega)]
      rfl
    have ha := atI_nat hx
    rw [show ((i.toNat : Nat) : Int) = i by omega] at ha
    exact sb_cons (st_asg 2 (ed_if (t := true) (ET.is (et_cmp od_lt (ed_var 1 rfl d1) (ed_lenL (ed_var 0 rfl d0))) (by rw [hlen]; exact decide_eq_true h)) (fun _ => ed_toI (ed_ixL (ed_var 0 rfl d0) (ed_var 1 rfl d1) ha)) fun h => nomatch h) fun v2 H1 q1 d2 => key _ v2 H1 q1 d2)
  · exact sb_cons (st_asg 2 (ed_if (t := false) (ET.is (et_cmp od_lt (ed_var 1 rfl d1) (ed_lenL (ed_var 0 rfl d0))) (by rw [hlen]; exact decide_eq_false h)) (fun h => nomatch h) fun _ => ed_bin od_add (ed_bin (od_mulS (.inl ⟨by decide, by decide⟩)) ed_int (ed_var 1 rfl d1)) ed_int) fun v2 H1 q1 d2 => key _ v2 H1 q1 d2)
def PRoll (ds : List PyData) : Prop := ∃ m : Int, ds = [.int m] ∧ 0 < m ∧ m < 1000000
def QRoll (ds : List PyData) (d : PyData) : Prop := ∃ m i : Int, ds = [.int m] ∧ d = .int i ∧ 0 ≤ i ∧ i < m
theorem spM_len {Pre : List PyData → Prop} {Post : List PyData → PyData → Prop} {n : Nat} (h : ∀ ds, Pre ds → ds.length = n) {vs : List V} {H : Hp} {Q : VK} {E : XK} (s : spM T K Pre Post vs H Q E) : vs.length = n + 1 := by
  obtain ⟨r, rest, ds, rfl, _, _, h1, h2, _⟩ := s
  rw [List.length_cons, dpa_len h1, h ds h2]
theorem ok_roll [B : Bl mg] (D : C8.Def K mg "_law_roll" (topS 41) f fd) (b : Binds K fd ["_law_dice_here", "_law_most"] []) : C8.Cal P w K mg base 1 "_law_roll" (spM T K PRoll QRoll) [] := by
  refine def_okG (N := ["_law_dice_here", "_law_most", "_law_found", "_law_one", "_law_two"]) D b (by decide +kernel) (fun vs H Q E h => spM_len (n := 1) (fun ds h => by obtain ⟨m, rfl, _⟩ := h; rfl) h) ?_
  rintro X rfl rfl rfl rfl rfl hXc hXq C H vs Q E hsp
  obtain ⟨r, rest, ds, rfl, hD, hT, hv, ⟨m, rfl, hm, hm2⟩, q⟩ := hsp
  obtain ⟨v1, rfl, d1⟩ := dpa1 hv
  cases d1
  obtain ⟨i0, i1, i2, hr⟩ := hD
  have dD : ∀ {H : Hp} {a b c : Int}, H r = some (.lst [.int a, .int b, .int c]) → Dp X.K H (.ref r) (.list [.int a, .int b, .int c]) := fun h => .lst (sq_of h) (.cons (.int _) (.cons (.int _) (.cons (.int _) .nil)))
  refine sb_cons (st_if (et_cmp od_gt (ed_ixL (ed_var 0 rfl (dD hr)) ed_int rfl) ed_int) (fun ht H1 q1 => ?_) fun ht H1 q1 => sb_nil ?_)
  · have h1 := q1 r _ hr
    refine sb_cons (st_asg 2 (ed_bin (od_mod hm) (ed_toI (ed_ixL (ed_var 0 rfl (dD h1)) ed_int rfl)) (ed_var 1 rfl (.int m))) fun v2 H2 q2 d2 => ?_)
    cases d2
    have h2 := q2 r _ h1
    refine sb_cons (st_set 0 (j := 0) rfl (ed_bin (od_div (Sm.divW (n := 64) (by unfold Sm; omega) hm)) (ed_ixL (ed_var 0 rfl (dD h2)) ed_int rfl) (ed_var 1 rfl (.int m))) h2 rfl fun v3 H3 q3 d3 => ?_)
    cases d3
    have h3 := q3 r _ h2
    refine sb_one (st_ret (ed_var 2 rfl (.int _)) fun v H4 q4 dv => q _ v H4 ⟨m, _, rfl, rfl, Int.emod_nonneg _ (by omega), Int.emod_lt_of_pos _ hm⟩ (((Mv.ex ((q1.trans q2).trans q3)).trans (mv_set h3)).trans (Mv.ex q4)) dv)
  · have h1 := q1 r _ hr
    refine sb_cons (st_set 0 (j := 2) rfl (ed_bin od_add (ed_ixL (ed_var 0 rfl (dD h1)) ed_int rfl) ed_int) h1 rfl fun v3 H3 q3 d3 => ?_)
    cases d3
    have h3 := q3 r _ h1
    change runB X _ _ _ (upd H3 r (.lst [.int i0, .int i1, .int (i2 + 1)]))
    have M3 : Mv T r H _ := (Mv.ex (q1.trans q3)).trans (mv_set (T := T) (a := i0) (b := i1) (c := i2 + 1) h3)
    have h4 : (upd H3 r (.lst [.int i0, .int i1, .int (i2 + 1)])) r = some (.lst [.int i0, .int i1, .int (i2 + 1)]) := upd_same
    generalize upd H3 r (.lst [.int i0, .int i1, .int (i2 + 1)]) = H4 at M3 h4
    refine sb_cons (st_asg 3 (ed_bin (od_mod (by decide)) (ed_toI (ed_bin od_add (ed_ixL (ed_var 0 rfl (dD h4)) ed_int rfl) (ed_bin (od_mulS (.inl ⟨by decide, by decide⟩)) ed_int (ed_ixL (ed_var 0 rfl (dD h4)) ed_int rfl)))) ed_int) fun v5 H5 q5 d5 => ?_)
    cases d5
    have h5 := q5 r _ h4
    have b1 := Int.emod_nonneg (i1 + 71828177 * (i2 + 1)) (show (2305843009213693421 : Int) ≠ 0 by decide)
    have b2 := Int.emod_lt_of_pos (i1 + 71828177 * (i2 + 1)) (show (0 : Int) < 2305843009213693421 by decide)
    generalize (i1 + 71828177 * (i2 + 1)) % 2305843009213693421 = one at b1 b2
    refine sb_cons (st_asg 4 (ed_bin od_add (ed_bin (od_mulS (.inr ⟨by decide, by decide⟩)) (ed_bin (od_mod (by decide)) (ed_toI (ed_bin od_add (ed_bin (od_mulS (.inl ⟨by omega, by omega⟩)) (ed_var 3 rfl (.int one)) (ed_var 3 rfl (.int one))) (ed_bin (od_mulS (.inl ⟨by decide, by decide⟩)) ed_int (ed_ixL (ed_var 0 rfl (dD h5)) ed_int rfl)))) ed_int) ed_int) (ed_var 3 rfl (.int one))) fun v6 H6 q6 d6 => ?_)
    cases d6
    exact sb_one (st_ret (ed_bin (od_mod hm) (ed_toI (ed_bin (od_div (Sm.divW (n := 64) (by unfold Sm; decide) (by decide))) (ed_var 4 rfl (.int _)) ed_int)) (ed_var 1 rfl (.int m))) fun v H7 q7 dv => q _ v H7 ⟨m, _, rfl, rfl, Int.emod_nonneg _ (by omega), Int.emod_lt_of_pos _ hm⟩ (M3.trans (Mv.ex ((q5.trans q6).trans q7))) dv)
end
end K9

set_option exponentiation.threshold 5000
namespace K9
open PySem PySem.Spec PyProof.Rows L2 KD
open Evl (Ex sq_of st_of fresh_back ex_l ex_t)
/-! ### pick, shuffled -/
section
variable {P : Program} {w : World} {K : PySem.W.Frag} {mg : Str → Option Value} {base : Heap} {f : Addr} {fd : FuncData} {T : List (Addr × Str)}
def PPick (ds : List PyData) : Prop := ∃ l : List (Int × Int), ds = [.list (l.map fr)] ∧ l ≠ [] ∧ l.length ≤ 1000
def QPick (ds : List PyData) (d : PyData) : Prop := ∃ (l : List (Int × Int)) (q : Int × Int), ds = [.list (l.map fr)] ∧ q ∈ l ∧ d = fr q
theorem fr_one {l : List (Int × Int)} {d : PyData} (h : d ∈ l.map fr) : ∃ q, d = fr q := let ⟨q, _, e⟩ := List.mem_map.mp h; ⟨q, e.symm⟩
theorem ok_pick [B : Bl mg] (D : C8.Def K mg "_law_pick" (topS 42) f fd) (b : Binds K fd ["_law_dice_here", "_law_items"] []) (c1 : C8.Cal P w K mg base 1 "_law_roll" (spM T K PRoll QRoll) []) : C8.Cal P w K mg base 2 "_law_pick" (spM T K PPick QPick) [] := by
  refine def_okG (N := ["_law_dice_here", "_law_items"]) D b (by decide +kernel) (fun vs H Q E h => spM_len (n := 1) (fun ds h => by obtain ⟨m, rfl, _⟩ := h; rfl) h) ?_
  rintro X rfl rfl rfl rfl rfl hXc hXq C H vs Q E hsp
  obtain ⟨r, rest, ds, rfl, hD, hT, hv, ⟨l, rfl, hl, hl2⟩, q⟩ := hsp
  obtain ⟨v1, rfl, d1⟩ := dpa1 hv
  obtain ⟨a, xs, rfl, hx, hxs⟩ := dp_lst d1
  have nr : H a = some (.lst xs) → a ≠ r := fun h z => by
    obtain ⟨i, j, k, hr⟩ := hD
    rw [z, hr] at h
    cases h
    cases l with
    | nil => exact hl rfl
    | cons q t =>
      cases hxs with
      | cons a b => cases a
  have stay : ∀ {H' : Hp}, Mv T r H H' → SqL X.K H' a xs := fun {H'} m => by
    rcases hx with (h | ⟨o, h⟩) | h
    · exact .inl (.inl (m.keep a _ (nr h) h fun ps z => by cases z))
    · exact .inl (.inr ⟨o, m.keep a _ (fun z => by obtain ⟨i, j, k, hr⟩ := hD; rw [z, hr] at h; cases h) h fun ps z => by cases z⟩)
    · exact .inr h
  have hlen : (l.map fr).length = l.length := List.length_map ..
  have hpos : 0 < l.length := List.length_pos_iff.mpr hl
  refine sb_one (st_retR (of_pe (pe_ix ix_list (pe_run _) (pe_run _) (by intro _ _; rfl)) (rn_var 1 rfl (rn_callM c1 0 rfl hD hT (ea_cons (ed_lenL (ed_var 1 rfl d1)) ea_nil) ⟨_, rfl, by omega, by omega⟩ fun d v H' hp m dv => ?_))))
  obtain ⟨mm, i, e, rfl, h0, h1⟩ := hp
  injection e with e
  injection e with e
  subst e
  cases dv
  rw [hlen] at h1
  have hq : l[i.toNat]? = some (l[i.toNat]'(by omega)) := List.getElem?_eq_getElem (by omega)
  have hd : (l.map fr)[i.toNat]? = some (fr (l[i.toNat]'(by omega))) := by rw [List.getElem?_map, hq]; rfl
  obtain ⟨u, hu, du⟩ := dpa_at hxs hd
  have ha := atI_nat hu
  rw [show ((i.toNat : Nat) : Int) = i by omega] at ha
  exact ⟨a, xs, i, u, rfl, rfl, stay m, ha, q _ u H' ⟨l, _, rfl, List.getElem_mem _, rfl⟩ m (dp_exT (m.t hD) _ _ (noL_fr _) du)⟩
def PShuf (ds : List PyData) : Prop := ∃ ns : List Int, ds = [.list (ns.map PyData.int)] ∧ ns.length ≤ 1000
def QShuf (ds : List PyData) (d : PyData) : Prop := ∃ ns ms : List Int, ds = [.list (ns.map PyData.int)] ∧ ms.Perm ns ∧ d = .list (ms.map PyData.int)
theorem eqv_nil (l : List Int) : PyData.eqv (.list (l.map PyData.int)) (.list []) = decide (l = []) := by
  cases l with
  | nil => rfl
  | cons x r => rfl
theorem sh_ils (l : List Int) : SeqAt.shaped (.list (l.map PyData.int)) = true := sh_of (by rw [PyData.canLay0]; exact canAll_map _ (fun a => by simp [PyData.canLay0]) l) (by
  rw [PyData.depth]
  have := depthAll_map PyData.int 1 (fun a => by simp [PyData.depth]) l
  omega)
theorem er_map {α β : Type} (f : α → β) : ∀ (l : List α) (i : Nat), (l.map f).eraseIdx i = (l.eraseIdx i).map f
  | [], _ => rfl
  | x :: r, 0 => rfl
  | x :: r, i + 1 => by
    show f x :: (r.map f).eraseIdx i = f x :: (r.eraseIdx i).map f
    rw [er_map f r i]
theorem erase_perm (l : List Int) (i : Nat) (hi : i < l.length) : (l.eraseIdx i ++ [l[i]]).Perm l := by
  rw [List.eraseIdx_eq_take_drop_succ]
  have e : l.take i ++ l[i] :: l.drop (i + 1) = l := by
    rw [List.getElem_cons_drop, List.take_append_drop]
  refine List.Perm.trans ?_ (List.Perm.of_eq e)
  rw [List.append_assoc]
  refine List.Perm.append_left _ ?_
  exact List.perm_append_comm
theorem ok_shuffled [B : Bl mg] (D : C8.Def K mg "_law_shuffled" (topS 43) f fd) (b : Binds K fd ["_law_dice_here", "_law_items"] []) (c1 : C8.Cal P w K mg base 1 "_law_roll" (spM T K PRoll QRoll) []) : C8.Cal P w K mg base 2 "_law_shuffled" (spM T K PShuf QShuf) [] := by
  refine def_okG (N := ["_law_dice_here", "_law_items", "_law_left", "_law_found"]) D b (by decide +kernel) (fun vs H Q E h => spM_len (n := 1) (fun ds h => by obtain ⟨m, rfl, _⟩ := h; rfl) h) ?_
  rintro X rfl rfl rfl rfl rfl hXc hXq C H vs Q E hsp
  obtain ⟨r, rest, ds, rfl, hD, hT, hv, ⟨ns, rfl, hl⟩, q⟩ := hsp
  obtain ⟨v1, rfl, d1⟩ := dpa1 hv
  refine sb_cons (st_parG 2 3 ((el_list (ed_var 1 rfl d1)).go fun pl xs H1 hpl q1 hxl dxl => (el_lst ea_nil).go fun pf ys H2 hpf q2 hxf dxf => ?_))
  cases dxf
  obtain rfl := dpa_ints_eq dxl
  have nlf : pl ≠ pf := ne_of_none hxl hpf
  have nl : H pl = none := hpl
  have nf : H pf = none := fresh_back q1 hpf
  refine sb_cons (st_while (fun m σ H' => ∃ ls fs : List Int, σ = [some (.ref r), some v1, some (.ref pl), some (.ref pf)] ∧ H' pl = some (.lst (ls.map V.int)) ∧ H' pf = some (.lst (fs.map V.int)) ∧ (fs ++ ls).Perm ns ∧ Mv T r H H' ∧ m = ls.length) ns.length ⟨ns, [], rfl, q2 pl _ hxl, hxf, .refl _, Mv.ex (q1.trans q2), rfl⟩ fun m σ H' hW => ?_)
  obtain ⟨ls, fs, rfl, hpl', hpf', hperm, M, rfl⟩ := hW
  have hll : ls.length + fs.length ≤ 1000 := by
    have := hperm.length_eq
    rw [List.length_append] at this
    omega
  refine ⟨!decide (ls = []), ET.is (et_cmp (od_neD (sh_ils ls) (by decide)) (ed_var 2 rfl (.lst (sq_of hpl') (dpa_ints ls))) (EL.ed (el_lst ea_nil))) (by rw [eqv_nil]), fun ht H3 q3 => ?_, fun ht H3 q3 => ?_⟩
  · have hne : ls ≠ [] := by simpa using ht
    have hpos : 0 < ls.length := List.length_pos_iff.mpr hne
    have hD3 := (M.trans (Mv.ex q3)).dice hD
    have hT3 := (M.trans (Mv.ex q3)).tab hT
    refine ⟨fun σ2 H2 => ∃ ls2 fs2 : List Int, σ2 = [some (.ref r), some v1, some (.ref pl), some (.ref pf)] ∧ H2 pl = some (.lst (ls2.map V.int)) ∧ H2 pf = some (.lst (fs2.map V.int)) ∧ (fs2 ++ ls2).Perm ns ∧ Mv T r H H2 ∧ ls2.length < ls.length, fun σ2 H2 h => ?_, ?_⟩
    · obtain ⟨ls2, fs2, e, h1, h2, h3, h4, h5⟩ := h
      exact ⟨_, h5, ls2, fs2, e, h1, h2, h3, h4, rfl⟩
    · refine sb_one (st_exprR (rn_app 3 rfl (q3 pf _ hpf') (of_pe (pe_bm PySem.F.plainAttrs_list PySem.F.slot_list_pop PySem.F.type_list_pop mt_popAt (pe_run _) (pa_run _)) (rn_var 2 rfl ⟨.inl ⟨rfl, _, sq_of (q3 pl _ hpl')⟩, ra1 (rn_callM c1 0 rfl hD3 hT3 (ea_cons (ed_lenL (ed_var 2 rfl (.lst (sq_of (q3 pl _ hpl')) (dpa_ints ls)))) ea_nil) ⟨_, rfl, by rw [List.length_map]; omega, by rw [List.length_map]; omega⟩ fun d v H4 hp m4 dv => ?_)⟩))))
      obtain ⟨mm, i, e, rfl, h0, h1⟩ := hp
      injection e with e
      injection e with e
      subst e
      cases dv
      rw [List.length_map] at h1
      have nr1 : pl ≠ r := fun z => by obtain ⟨a, b, c, h⟩ := hD; rw [z, h] at nl; cases nl
      have nr2 : pf ≠ r := fun z => by obtain ⟨a, b, c, h⟩ := hD; rw [z, h] at nf; cases nf
      have hp4 : H4 pl = some (.lst (ls.map V.int)) := m4.keep pl _ nr1 (q3 pl _ hpl') fun ps z => by cases z
      have hf4 : H4 pf = some (.lst (fs.map V.int)) := m4.keep pf _ nr2 (q3 pf _ hpf') fun ps z => by cases z
      have hi : i.toNat < ls.length := by omega
      have hix : ixN (ls.map V.int).length i = some i.toNat := by
        have h := Evl.ixN_nat (n := (ls.map V.int).length) (j := i.toNat) (by rw [List.length_map]; omega)
        rw [show ((i.toNat : Nat) : Int) = i by omega] at h
        exact h
      refine ⟨pl, _, i, i.toNat, .int (ls[i.toNat]), rfl, rfl, hp4, by omega, by omega, (ixN_seq hix).1, by rw [List.getElem?_map, List.getElem?_eq_getElem hi]; rfl, fs.map V.int, ?_, by rw [List.length_map]; omega, ls.eraseIdx i.toNat, fs ++ [ls[i.toNat]], rfl, ?_, ?_, ?_, ?_, ?_⟩
      · rw [upd_ne (Ne.symm nlf)]
        exact hf4
      · rw [upd_ne nlf, upd_same, er_map]
      · rw [upd_same, List.map_append]
        rfl
      · refine List.Perm.trans ?_ hperm
        rw [List.append_assoc]
        refine List.Perm.append_left _ ?_
        exact List.perm_append_comm.trans (erase_perm ls i.toNat hi)
      · have M4 := (M.trans (Mv.ex q3)).trans m4
        exact mv_mut (mv_mut M4 hD (nt_none nl) hp4) hD (nt_none nf) (show _ = some (HO.lst (fs.map V.int)) by rw [upd_ne (Ne.symm nlf)]; exact hf4)
      · have := List.length_eraseIdx_of_lt hi
        omega
  · have hne : ls = [] := by simpa using ht
    subst hne
    rw [List.append_nil] at hperm
    exact sb_one (st_ret (ed_var 3 rfl (.lst (sq_of (q3 pf _ hpf')) (dpa_ints fs))) fun v H4 q4 dv => q _ v H4 ⟨ns, fs, rfl, hperm, rfl⟩ (M.trans (Mv.ex (q3.trans q4))) dv)
end
end K9

set_option exponentiation.threshold 5000
namespace K9
open PySem PySem.Spec PyProof.Rows L2 KD
open Evl (Ex sq_of st_of fresh_back ex_l ex_t)
/-- a drawn reading -/
def Drawn (q : Int × Int) : Prop := Good q ∧ q.1 ≤ 4 * q.2 ∧ q.2 ≤ 100000000000000000001
theorem low_drawn {t b : Int} (h0 : 0 ≤ t) (hb : 0 < b) (h4 : t ≤ 4 * b) (hs : b ≤ 100000000000000000001) : Drawn (low t b) := by
  obtain ⟨e1, e2, e3, e4, e5, e6, g, hg, eg1, eg2⟩ := low_prop h0 hb
  refine ⟨⟨e4, e2, ?_, ?_, e6⟩, ?_, by omega⟩
  · show _ < GREAT
    unfold GREAT
    omega
  · show _ < GREAT
    unfold GREAT
    omega
  · have : (low t b).1 * g ≤ (4 * (low t b).2) * g := by
      rw [← eg1, Int.mul_assoc, ← eg2]
      exact h4
    exact Int.le_of_mul_le_mul_right this hg
section
variable {X : Cx} {σ : L2.St} {H : Hp} {es : List Expr} {pos : Pos}
theorem rn_lst {Q : VK} (h : runA X es σ H fun xs H1 => xs.length ≤ 100000 ∧ ∀ p, H1 p = none → Q (.ref p) (upd H1 p (.lst xs))) : run X (.List es pos) σ H Q :=
  of_pe (pe_lst (pa_run es)) ⟨fun ps pins s I => thn (h.go ps pins s I) fun us s1 ⟨xs, H1, I1, r1, h1, h2⟩ => ⟨xs, H1, I1, r1, Evl.sz_of h1, h2⟩⟩
theorem rn_tup {Q : VK} {j : Nat} (h : runA X es σ H fun xs H1 => xs.length ≤ 100000 ∧ ∀ p, H1 p = none → Q (.ref p) (upd H1 p (.tup xs))) : run X (.Tuple es j pos) σ H Q :=
  of_pe (pe_tup (pa_run es)) ⟨fun ps pins s I => thn (h.go ps pins s I) fun us s1 ⟨xs, H1, I1, r1, h1, h2⟩ => ⟨xs, H1, I1, r1, Evl.sz_of h1, h2⟩⟩
theorem ra_tup {Q : List V → Hp → Prop} {a : List Expr} {ds : List PyData} {j : Nat} {p : Pos} (ha : EA X a σ H ds) (h : ∀ v H1, Ex H H1 → Dp X.K H1 v (.tuple ds) → runA X es σ H1 fun vs H2 => Q (v :: vs) H2) (hz : ds.length ≤ 100000 := by exact Nat.le_of_ble_eq_true rfl) : runA X (.Tuple a j p :: es) σ H Q := ra_ed (ed_tup ha hz) h
theorem ra_tupR {Q : List V → Hp → Prop} {a : List Expr} {j : Nat} {p : Pos} (h : run X (.Tuple a j p) σ H fun v H1 => Q [v] H1) : runA X [.Tuple a j p] σ H Q := ra1 h
theorem ea_bin {l r : Expr} {op : Operator} {p : Pos} {d : PyData} (h : ED X (.BinOp l op r p) σ H d) : EA X [.BinOp l op r p] σ H [d] := ea_cons h ea_nil
end
def big20 : Int := 1 + 10 ^ (Int.toNat 20)
theorem big20_eq : big20 = 100000000000000000001 := by decide +kernel
section
variable {P : Program} {w : World} {K : PySem.W.Frag} {mg : Str → Option Value} {base : Heap} {f : Addr} {fd : FuncData} {T : List (Addr × Str)}
def PDrawn (ds : List PyData) : Prop := ∃ n : Nat, ds = [.int n] ∧ n ≤ 3
def QDrawn (ds : List PyData) (d : PyData) : Prop := ∃ (n : Nat) (rs : List (Int × Int)), ds = [.int n] ∧ rs.length = n ∧ (∀ q ∈ rs, Drawn q) ∧ d = rds rs
theorem ok_cq_drawn [B : Bl mg] (D : C8.Def K mg "_law_cq_drawn" (topS 51) f fd) (b : Binds K fd ["_law_dice_here", "_law_clocks"] []) (c1 : C8.Cal P w K mg base 1 "_law_roll" (spM T K PRoll QRoll) []) (c2 : C8.Cal P w K mg base 2 "_law_pick" (spM T K PPick QPick) []) (c3 : C8.Cal P w K mg base 1 "_law_fq_low" (spD K FLowest) []) :
    C8.Cal P w K mg base 3 "_law_cq_drawn" (spM T K PDrawn QDrawn) [] := by
  refine def_okG (N := ["_law_dice_here", "_law_clocks", "_law_some", "_law_found", "_law_clock", "_law_whole", "_law_top", "_law_bottom"]) D b (by decide +kernel) (fun vs H Q E h => spM_len (n := 1) (fun ds h => by obtain ⟨m, rfl, _⟩ := h; rfl) h) ?_
  rintro X rfl rfl rfl rfl rfl hXc hXq C H vs Q E hsp
  obtain ⟨r, rest, ds, rfl, hD, hT, hv, ⟨n, rfl, hn⟩, q⟩ := hsp
  obtain ⟨v1, rfl, d1⟩ := dpa1 hv
  refine sb_cons ?_
  refine st_parG 2 3 ?_
  refine rn_lst ?_
  generalize hE : Expr.BinOp _ Operator.Add _ _ = EE
  have hEE : ∀ (σ : L2.St) (H : Hp), ED X EE σ H (.int big20) := fun σ H => by
    rw [← hE]
    exact ED.is (ed_bin od_add ed_int (ed_bin (od_pow ⟨by decide, by decide, by decide⟩) ed_int ed_int)) rfl
  have hES : starEach [EE] X.env = (false, eval EE X.env) :: starEach [] X.env := by
    rw [← hE]
    rfl
  clear hE
  refine ra_tup (ea_cons ed_int (ea_cons ed_int ea_nil)) fun u1 H1 q1 e1 => ?_
  refine ra_tup (ea_cons ed_int (ea_cons ed_int ea_nil)) fun u2 H2 q2 e2 => ?_
  refine ra_tup (ea_cons ed_int (ea_cons ed_int ea_nil)) fun u3 H3 q3 e3 => ?_
  refine ra_tup (ea_cons ed_int (ea_cons ed_int ea_nil)) fun u4 H4 q4 e4 => ?_
  refine ra_tup (ea_cons ed_int (ea_cons ed_int ea_nil)) fun u5 H5 q5 e5 => ?_
  refine ra_tup (ds := [.int 1, .int big20]) (ea_cons ed_int (ea_cons (hEE _ _) ea_nil hES)) fun u6 H6 q6 e6 => ?_
  have Q6 : Ex H H6 := ((((q1.trans q2).trans q3).trans q4).trans q5).trans q6
  have e16 := ((((q2.trans q3).trans q4).trans q5).trans q6).dp e1
  have e26 := (((q3.trans q4).trans q5).trans q6).dp e2
  have e36 := ((q4.trans q5).trans q6).dp e3
  have e46 := (q5.trans q6).dp e4
  have e56 := q6.dp e5
  refine ra_tupR (rn_tup ?_)
  refine ra_run (rn_callM c1 0 rfl (hD.ex Q6) (hT.ext Q6) (ea_cons ed_int ea_nil) ⟨97, rfl, by decide, by decide⟩ fun d v H7 hp m7 dv => ?_)
  refine ra1 (ed_int.go fun v8 H8 q8 d8 => ?_)
  obtain ⟨mm, i, e, rfl, hi0, hi1⟩ := hp
  injection e with e
  injection e with e
  subst e
  cases dv
  cases d8
  refine ⟨Nat.le_of_ble_eq_true rfl, fun r9 hr9 => ⟨Nat.le_of_ble_eq_true rfl, fun ps hps => (el_lst ea_nil).go fun pf xf H10 hpf q10 hxf dxf => ?_⟩⟩
  cases dxf
  have hD6 := hD.ex Q6
  have t9 : ExT H6 (upd H8 r9 (.tup [.int i, .int 97])) := (m7.t hD6).trans (q8.trans (Evl.Ex.new hr9)).t
  have M9 : Mv T r H (upd H8 r9 (.tup [.int i, .int 97])) := ((Mv.ex Q6).trans m7).trans (Mv.ex (q8.trans (Evl.Ex.new hr9)))
  have hr9' : (upd H8 r9 (.tup [.int i, .int 97])) r9 = some (.tup [.int i, .int 97]) := upd_same
  generalize upd H8 r9 (.tup [.int i, .int 97]) = H9 at t9 M9 hr9' hps q10 hpf
  let items : List (Int × Int) := [(0, 1), (0, 1), (1, 2), (1, 3), (2, 3), (1, big20), (i, 97)]
  have dIt : DpAll X.K H9 [u1, u2, u3, u4, u5, u6, .ref r9] (items.map fr) :=
    .cons (dp_exT t9 _ _ (by rfl) e16) (.cons (dp_exT t9 _ _ (by rfl) e26) (.cons (dp_exT t9 _ _ (by rfl) e36) (.cons (dp_exT t9 _ _ (by rfl) e46) (.cons (dp_exT t9 _ _ (by rfl) e56) (.cons (dp_exT t9 _ _ (by rfl) e6) (.cons (.tup (st_of hr9') (.cons (.int _) (.cons (.int _) .nil))) .nil))))))
  have hItem : ∀ q ∈ items, 0 ≤ q.1 ∧ q.1 < q.2 ∧ q.2 ≤ 100000000000000000001 := by
    intro q hq
    have hb := big20_eq
    simp only [items, List.mem_cons, List.not_mem_nil, or_false] at hq
    rcases hq with rfl | rfl | rfl | rfl | rfl | rfl | rfl <;> simp only <;> omega
  have ntps : NT H ps := nt_mv M9 hD hps
  have ntpf : NT H pf := nt_mv (M9.trans (Mv.ex (Evl.Ex.new hps))) hD hpf
  have hps9 : (upd H9 ps (.lst [u1, u2, u3, u4, u5, u6, .ref r9])) ps = some (.lst [u1, u2, u3, u4, u5, u6, .ref r9]) := upd_same
  have dIt9 := (Evl.Ex.new (H := H9) (o := .lst [u1, u2, u3, u4, u5, u6, .ref r9]) hps).dpa dIt
  have M10 : Mv T r H H10 := M9.trans (Mv.ex ((Evl.Ex.new hps).trans q10))
  have hps10 := q10 ps _ hps9
  have dIt10 := q10.dpa dIt9
  have nsf : ps ≠ pf := ne_of_none hps9 hpf
  have npr : ps ≠ r := nt_dice ntps hD
  have nfr : pf ≠ r := nt_dice ntpf hD
  cases d1
  refine sb_cons (st_for (ei_range1 (ed_var 1 rfl (.int _)) (by omega) (by omega)) fun H11 q11 => ⟨fun j σ' H' => ∃ (y4 y5 y6 y7 : Option V) (ys : List V) (rs : List (Int × Int)), σ' = [some (.ref r), some (.int n), some (.ref ps), some (.ref pf), y4, y5, y6, y7] ∧ Mv T r H H' ∧ H' ps = some (.lst [u1, u2, u3, u4, u5, u6, .ref r9]) ∧ DpAll X.K H' [u1, u2, u3, u4, u5, u6, .ref r9] (items.map fr) ∧
      H' pf = some (.lst ys) ∧ DpAll X.K H' ys (rs.map fr) ∧ rs.length = j ∧ ∀ q ∈ rs, Drawn q,
    ⟨none, none, none, none, [], [], rfl, M10.trans (Mv.ex q11), q11 ps _ hps10, q11.dpa dIt10, q11 pf _ hxf, .nil, rfl, fun _ h => nomatch h⟩, fun _ _ _ _ => True.intro, fun j d v σ' H' H'' hd hP q12 dv => ?_, fun σ' H12 hP => ?_⟩)
  · obtain ⟨y4, y5, y6, y7, ys, rs, rfl, M, hps', dI, hpf', dR, hl, hG⟩ := hP
    obtain ⟨rfl, hj⟩ := rgD_get hd
    have M2 := M.trans (Mv.ex q12)
    have hD2 := M2.dice hD
    have hT2 := M2.tab hT
    have hps2 := q12 ps _ hps'
    have dI2 := q12.dpa dI
    have hpf2 := q12 pf _ hpf'
    have dR2 := q12.dpa dR
    refine tg_name 4 (sb_cons ?_)
    refine st_parC (rn_callM c1 0 rfl hD2 hT2 (ea_cons ed_int ea_nil) ⟨5, rfl, by decide, by decide⟩ fun d w H3 hp m3 dw => ?_) swap_nest
    obtain ⟨mm, k, e, rfl, hk0, hk1⟩ := hp
    injection e with e
    injection e with e
    subst e
    have t3 := m3.t hD2
    have hps3 := m3.keep ps _ npr hps2 fun ps z => by cases z
    have hpf3 := m3.keep pf _ nfr hpf2 fun ps z => by cases z
    have dI3 := dpa_exT t3 _ _ (noLs_map fr noL_fr _) dI2
    have dR3 := dpa_exT t3 _ _ (noLs_map fr noL_fr _) dR2
    have hD3 := m3.dice hD2
    have hT3 := m3.tab hT2
    refine rn_callM c2 0 rfl hD3 hT3 (ea_cons (ed_var 2 rfl (.lst (sq_of hps3) dI3)) ea_nil) ⟨items, rfl, List.cons_ne_nil _ _, Nat.le_of_ble_eq_true rfl⟩ fun d u H4 hp m4 du => ?_
    obtain ⟨l, q0, e, hq0, rfl⟩ := hp
    have hq0' : q0 ∈ items := by
      injection e with e
      injection e with e
      have h2 : l = items := by
        have inj : ∀ (a b : List (Int × Int)), a.map fr = b.map fr → a = b := by
          intro a
          induction a with
          | nil =>
            intro b h
            cases b with
            | nil => rfl
            | cons x r => cases h
          | cons y t ih =>
            intro b h
            cases b with
            | nil => cases h
            | cons x r =>
              rw [List.map_cons, List.map_cons] at h
              injection h with h1 h2
              have e1 := fr_inj (d1 := .int y.1) (d2 := .int y.2) (o := x) h1.symm
              injection e1.1 with a1
              injection e1.2 with a2
              rw [ih r h2, show y = x from Prod.ext a1 a2]
        exact (inj _ _ e).symm
      rw [← h2]
      exact hq0
    obtain ⟨b0, b1, b2⟩ := hItem q0 hq0'
    have t4 := m4.t hD3
    have hps4 := m4.keep ps _ npr hps3 fun ps z => by cases z
    have hpf4 := m4.keep pf _ nfr hpf3 fun ps z => by cases z
    have dI4 := dpa_exT t4 _ _ (noLs_map fr noL_fr _) dI3
    have dR4 := dpa_exT t4 _ _ (noLs_map fr noL_fr _) dR3
    cases dw
    intro rr hrr
    have q5 : Ex H4 (upd H4 rr (.tup [.int k, u])) := Evl.Ex.new hrr
    have h5 : (upd H4 rr (.tup [.int k, u])) rr = some (.tup [.int k, u]) := upd_same
    generalize upd H4 rr (.tup [.int k, u]) = H5 at q5 h5
    have M5 : Mv T r H H5 := ((M2.trans m3).trans m4).trans (Mv.ex q5)
    refine tg_three (d1 := .int k) (d2 := .int q0.1) (d3 := .int q0.2) 5 6 7 (.tup (st_of h5) (.cons (.int k) (.cons (q5.dp du) .nil))) fun w5 w6 w7 z5 z6 z7 => ?_
    cases z5
    cases z6
    cases z7
    have key : ∀ (qn : Int × Int), Drawn qn → ∀ v6 H6, Ex H5 H6 → Dp X.K H6 v6 (fr qn) → ∃ xs1, H6 pf = some (.lst xs1) ∧ xs1.length < 100000 ∧ (∃ (y4 y5 y6 y7 : Option V) (ys : List V) (rs' : List (Int × Int)), [some (.ref r), some (.int n), some (.ref ps), some (.ref pf), some v, some (.int k), some (.int q0.1), some (.int q0.2)] = [some (.ref r), some (.int n), some (.ref ps), some (.ref pf), y4, y5, y6, y7] ∧ Mv T r H (upd H6 pf (.lst (xs1 ++ [v6]))) ∧ (upd H6 pf (.lst (xs1 ++ [v6]))) ps = some (.lst [u1, u2, u3, u4, u5, u6, .ref r9]) ∧ DpAll X.K (upd H6 pf (.lst (xs1 ++ [v6]))) [u1, u2, u3, u4, u5, u6, .ref r9] (items.map fr) ∧
        (upd H6 pf (.lst (xs1 ++ [v6]))) pf = some (.lst ys) ∧ DpAll X.K (upd H6 pf (.lst (xs1 ++ [v6]))) ys (rs'.map fr) ∧ rs'.length = j + 1 ∧ ∀ q ∈ rs', Drawn q) := fun qn hqn v6 H6 q6 d6 => by
      have hpf6 := q6 pf _ (q5 pf _ hpf4)
      have tt : ExT H6 (upd H6 pf (.lst (ys ++ [v6]))) := ExT.lst hpf6
      refine ⟨ys, hpf6, by rw [dpa_len dR, List.length_map]; omega, some v, _, _, _, ys ++ [v6], rs ++ [qn], rfl, mv_mut (M5.trans (Mv.ex q6)) hD ntpf hpf6, ?_, ?_, upd_same, ?_, by rw [List.length_append, hl]; rfl, fun q hq => ?_⟩
      · rw [upd_ne nsf]
        exact q6 ps _ (q5 ps _ hps4)
      · exact dpa_exT tt _ _ (noLs_map fr noL_fr _) (q6.dpa (q5.dpa dI4))
      · rw [List.map_append]
        exact dpa_app (dpa_exT tt _ _ (noLs_map fr noL_fr _) (q6.dpa (q5.dpa dR4))) (dpa_one (dp_exT tt _ _ (noL_fr _) d6))
      · rcases List.mem_append.mp hq with hq | hq
        · exact hG q hq
        · rw [List.mem_singleton.mp hq]
          exact hqn
    refine sb_one (st_exprR (rn_app 3 rfl (q5 pf _ hpf4) ?_))
    by_cases h4 : k = 4
    · refine (ed_if (t := true) (d := fr (4, 1)) (ET.is (et_cmp od_eqI (ed_var 5 rfl (.int k)) ed_int) (decide_eq_true h4)) (fun _ => ed_tup (ea_cons ed_int (ea_cons ed_int ea_nil))) fun h => nomatch h).go fun v6 H6 q6 d6 => ?_
      exact key (4, 1) ⟨⟨by decide, by decide, by decide, by decide, by decide +kernel⟩, by decide, by decide⟩ v6 H6 q6 d6
    · have hk3 : k ≤ 3 := by omega
      have hs7 : Sm 70 q0.2 := by unfold Sm; omega
      have hs6 : Sm 70 q0.1 := by unfold Sm; omega
      have hsk : Sm 3 k := by unfold Sm; omega
      have hb : 0 < q0.2 := by omega
      have h0 : 0 ≤ k * q0.2 + q0.1 := Int.add_nonneg (Int.mul_nonneg hk0 (by omega)) b0
      have hm : k * q0.2 ≤ 3 * q0.2 := Int.mul_le_mul_of_nonneg_right hk3 (by omega)
      refine (ed_if (t := false) (d := fr (low (k * q0.2 + q0.1) q0.2)) (ET.is (et_cmp od_eqI (ed_var 5 rfl (.int k)) ed_int) (decide_eq_false h4)) (fun h => nomatch h) fun _ => ed_call c3 (ea_cons (ed_bin od_add (ed_bin (od_mul (hsk.mulW hs7)) (ed_var 5 rfl (.int k)) (ed_var 7 rfl (.int _))) (ed_var 6 rfl (.int _))) (ea_cons (ed_var 7 rfl (.int _)) ea_nil)) ⟨_, _, rfl, hb, hs7.mono (by decide), rfl⟩).go fun v6 H6 q6 d6 => ?_
      exact key _ (low_drawn h0 hb (by omega) b2) v6 H6 q6 d6
  · obtain ⟨y4, y5, y6, y7, ys, rs, rfl, M, hps', dI, hpf', dR, hl, hG⟩ := hP
    rw [rgD_len] at hl
    exact sb_one (st_ret (ed_tupL (ed_var 3 rfl (.lst (sq_of hpf') dR))) fun v H13 q13 dv => q _ v H13 ⟨n, rs, rfl, by omega, hG, rfl⟩ (M.trans (Mv.ex q13)) dv)
end
end K9

namespace K9
open PySem PySem.Spec PyProof.Rows L2 KD
open Evl (Ex sq_of st_of fresh_back ex_l ex_t)
/-! ### cq_point -/
def plc : Nat → List (List Int) → Int → List Int
  | _, [], _ => []
  | n, g :: r, i => if i ∈ g then (n : Int) :: plc (n + 1) r i else plc (n + 1) r i
def place (gs : List (List Int)) (i : Int) : Int := (plc 0 gs i).headD 0
def ptL (gs : List (List Int)) (D : Int) (S : List Int) : Nat → List Int → List (Int × Int)
  | _, [] => []
  | n, w :: r => low (w * D + S.getD (place gs n).toNat 0) D :: ptL gs D S (n + 1) r
theorem ptL_get (gs : List (List Int)) (D : Int) (S : List Int) : ∀ (n : Nat) (l : List Int) (i : Nat), (ptL gs D S n l)[i]? = l[i]?.map fun w => low (w * D + S.getD (place gs ((n + i : Nat) : Int)).toNat 0) D
  | _, [], _ => by simp [ptL]
  | n, w :: r, 0 => by simp [ptL]
  | n, w :: r, i + 1 => by
    have h := ptL_get gs D S (n + 1) r i
    rw [show n + 1 + i = n + (i + 1) by omega] at h
    simpa [ptL] using h
theorem ptL_len (gs : List (List Int)) (D : Int) (S : List Int) : ∀ (n : Nat) (l : List Int), (ptL gs D S n l).length = l.length
  | _, [] => rfl
  | n, w :: r => congrArg Nat.succ (ptL_len gs D S (n + 1) r)
theorem plc_mem : ∀ (n : Nat) (gs : List (List Int)) (i : Int) (p : Int), p ∈ plc n gs i → (n : Int) ≤ p ∧ p < ((n + gs.length : Nat) : Int)
  | _, [], _, _, h => by simp [plc] at h
  | n, g :: r, i, p, h => by
    unfold plc at h
    have ih := plc_mem (n + 1) r i p
    rw [List.length_cons]
    split at h
    · rcases List.mem_cons.mp h with rfl | h
      · omega
      · have := ih h
        omega
    · have := ih h
      omega
theorem plc_ne : ∀ (n : Nat) (gs : List (List Int)) (i : Int), i ∈ gs.flatten → plc n gs i ≠ []
  | _, [], _, h => by simp at h
  | n, g :: r, i, h => by
    unfold plc
    rw [List.flatten_cons, List.mem_append] at h
    split
    · exact List.cons_ne_nil _ _
    · rename_i hg
      exact plc_ne (n + 1) r i (h.resolve_left hg)
def inI (i : Int) : PyData → Bool
  | .tuple [_, .tuple g] => g.any fun z => match z with | .int a => a == i | _ => false
  | _ => false
theorem any_int (i : Int) (g : List Int) : (g.map PyData.int).any (fun z => match z with | .int a => a == i | _ => false) = decide (i ∈ g) := by
  induction g with
  | nil => rfl
  | cons x r ih =>
    rw [List.map_cons, List.any_cons, ih]
    show ((x == i) || decide (i ∈ r)) = _
    by_cases h : x = i
    · simp [h]
    · have h' : ¬ i = x := fun z => h z.symm
      simp [h, h']
theorem plc_enum (i : Int) : ∀ (n : Nat) (gs : List (List Int)), ((enD n (gs.map igs)).filter (inI i)).map (fun d => match d with | .tuple [a, _] => a | _ => PyData.none) = (plc n gs i).map PyData.int
  | _, [] => rfl
  | n, g :: r => by
    have hm : inI i (PyData.tuple [.int n, .tuple (g.map PyData.int)]) = decide (i ∈ g) := any_int i g
    show (List.filter _ (PyData.tuple [.int n, .tuple (g.map PyData.int)] :: enD (n + 1) (r.map igs))).map _ = (if i ∈ g then (n : Int) :: plc (n + 1) r i else plc (n + 1) r i).map PyData.int
    rw [List.filter_cons, hm]
    by_cases h : i ∈ g
    · rw [if_pos (decide_eq_true h), if_pos h, List.map_cons, plc_enum i (n + 1) r]
      rfl
    · rw [if_neg (by rw [decide_eq_false h]; exact Bool.false_ne_true), if_neg h, plc_enum i (n + 1) r]
theorem Ord.has {n : Nat} {gs : List (List Int)} (o : Ord n gs) {i : Nat} (h : i < n) : (i : Int) ∈ gs.flatten := by
  have h1 : PyData.int i ∈ (srt gs.flatten).map PyData.int := by
    rw [o.all]
    unfold rgD
    refine List.mem_map.mpr ⟨i, List.mem_range.mpr (by omega), ?_⟩
    rw [Int.zero_add]
  obtain ⟨a, ha, e⟩ := List.mem_map.mp h1
  cases e
  exact (srt_perm _).mem_iff.mp ha
theorem Ord.few4 {n : Nat} {gs : List (List Int)} (o : Ord n gs) : gs.length ≤ 4 := by
  have h1 := o.flen
  have h2 : ∀ l : List (List Int), (∀ g ∈ l, g ≠ []) → l.length ≤ l.flatten.length := by
    intro l
    induction l with
    | nil => intro _; exact Nat.le_refl _
    | cons g r ih =>
      intro h
      have := ih fun x hx => h x (List.mem_cons_of_mem _ hx)
      have := List.length_pos_iff.mpr (h g (List.mem_cons_self ..))
      rw [List.flatten_cons, List.length_append, List.length_cons]
      omega
  have h3 := h2 gs.tail o.tl
  have h4 : gs.tail.flatten.length ≤ gs.flatten.length := by
    cases gs with
    | nil => exact Nat.le_refl _
    | cons g r =>
      rw [List.flatten_cons, List.length_append]
      exact Nat.le_add_left _ _
  have := o.len
  rw [List.length_tail] at h3
  omega
def rgI (a b : Int) : List Int := (List.range (b - a).toNat).map fun i => a + (i : Nat)
theorem rgD_ints (a b : Int) : rgD a b = (rgI a b).map PyData.int := by
  unfold rgD rgI
  rw [List.map_map]
  rfl
theorem rgI_mem {a b x : Int} (h : x ∈ rgI a b) : a ≤ x ∧ x < b := by
  obtain ⟨i, hi, rfl⟩ := List.mem_map.mp h
  have := List.mem_range.mp hi
  omega
theorem rgI_nodup (a b : Int) : (rgI a b).Nodup := by
  unfold rgI
  rw [List.nodup_iff_pairwise_ne, List.pairwise_map]
  exact (List.nodup_iff_pairwise_ne.mp List.nodup_range).imp fun h z => h (by omega)
theorem rgI_len (a b : Int) : (rgI a b).length = (b - a).toNat := by
  unfold rgI
  rw [List.length_map, List.length_range]
theorem cut_to (ds : List PyData) (k : Nat) : cuD ds none (some (k : Int)) = ds.take k := by
  unfold cuD
  rw [HT.sIx_none, HT.sIx_nat, List.drop_zero, Nat.sub_zero]
  by_cases h : k ≤ ds.length
  · rw [Nat.min_eq_left h]
  · rw [Nat.min_eq_right (by omega), List.take_length, List.take_of_length_le (by omega)]
section
variable {P : Program} {w : World} {K : PySem.W.Frag} {mg : Str → Option Value} {base : Heap} {f : Addr} {fd : FuncData} {T : List (Addr × Str)}
def PPoint (ds : List PyData) : Prop := ∃ c : Cls, ds = [clsD c] ∧ Wf c
def QPoint (ds : List PyData) (d : PyData) : Prop := ∃ (c : Cls) (D : Int) (Ts : List Int), ds = [clsD c] ∧ Ts.length + 1 = c.2.length ∧ Ts.Pairwise (· < ·) ∧ (∀ t ∈ Ts, 0 < t ∧ t < D) ∧ 0 < D ∧ D ≤ 100 ∧ d = rds (ptL c.2 D (0 :: Ts) 0 c.1)
theorem ok_cq_point [B : Bl mg] (D : C8.Def K mg "_law_cq_point" (topS 52) f fd) (b : Binds K fd ["_law_dice_here", "_law_cls"] []) (c1 : C8.Cal P w K mg base 1 "_law_roll" (spM T K PRoll QRoll) []) (c2 : C8.Cal P w K mg base 2 "_law_shuffled" (spM T K PShuf QShuf) []) (c3 : C8.Cal P w K mg base 1 "_law_fq_low" (spD K FLowest) []) :
    C8.Cal P w K mg base 3 "_law_cq_point" (spM T K PPoint QPoint) [] := by
  refine def_okG (N := ["_law_dice_here", "_law_cls", "_law_wholes", "_law_order", "_law_many", "_law_bottom", "_law_tops", "_law_found", "_law_clock", "_law_whole", "_law_place", "_law_at", "_law_group"]) D b (by decide +kernel) (fun vs H Q E h => spM_len (n := 1) (fun ds h => by obtain ⟨m, rfl, _⟩ := h; rfl) h) ?_
  rintro X rfl rfl rfl rfl rfl hXc hXq C H vs Q E hsp
  obtain ⟨r, rest, ds, rfl, hD, hT, hv, ⟨c, rfl, W⟩, q⟩ := hsp
  obtain ⟨v1, rfl, d1⟩ := dpa1 hv
  obtain ⟨ws, gs⟩ := c
  have ln : ws.length ≤ 3 := W.ord.len
  have few : gs.length ≤ 4 := W.ord.few4
  have gpos : 0 < gs.length := List.length_pos_iff.mpr W.ord.ne
  have nls : noLs (gs.map igs) = true := noLs_map igs noL_ints _
  have hlen : (gs.map igs).length = gs.length := List.length_map ..
  refine sb_cons (st_unp2 2 3 (ed_var 1 rfl d1) fun v2 v3 H1 q1 d2 d3 => ?_)
  refine sb_cons (st_asg 4 (ED.is (ed_bin od_sub (ed_len (ed_var 3 rfl d3)) ed_int) (d1 := .int ((gs.length - 1 : Nat) : Int)) (by rw [hlen]; congr 1; omega)) fun v4 H2 q2 d4 => ?_)
  cases d4
  refine sb_cons (st_asgR 5 (of_pe (pe_op op_add (pe_run _) (pe_run _)) ((ed_bin od_add (ed_var 4 rfl (.int _)) ed_int).go fun x H3 q3 dx => rn_callM c1 0 rfl (hD.ex ((q1.trans q2).trans q3)) (hT.ext ((q1.trans q2).trans q3)) (ea_cons ed_int ea_nil) ⟨7, rfl, by decide, by decide⟩ fun d v H4 hp m4 dv => ?_)))
  obtain ⟨mm, i, e, rfl, hi0, hi1⟩ := hp
  injection e with e
  injection e with e
  subst e
  cases dv
  cases dx
  refine ⟨_, i, rfl, rfl, ?_⟩
  have Q3 := (q1.trans q2).trans q3
  have M4 : Mv T r H H4 := (Mv.ex Q3).trans m4
  have t4 : ExT H3 H4 := m4.t (hD.ex Q3)
  have d24 := dp_exT t4 _ _ (noL_ints ws) ((q2.trans q3).dp d2)
  have d34 := dp_exT t4 _ _ (show noL (.tuple (gs.map igs)) = true from nls) ((q2.trans q3).dp d3)
  change runB X _ _ [some (.ref r), some v1, some v2, some v3, some (.int ((gs.length - 1 : Nat) : Int)), some (.int (((gs.length - 1 : Nat) : Int) + 1 + i)), none, none, none, none, none, none, none] H4
  generalize hBd : ((gs.length - 1 : Nat) : Int) + 1 + i = Bd
  have hBd0 : (gs.length : Int) ≤ Bd := by omega
  have hBd1 : Bd ≤ 100 := by omega
  -- tops
  refine sb_cons (st_asgR 6 (of_pe (pe_callB cr_sorted (C.gl _ (by decide +kernel)) B.sorted boot_sorted (pa_run _) (by decide) (by decide) (by rfl) (by rfl)) (ra1 (of_pe (pe_slice sl_list (pe_run _) (po_run _) (po_run _)) (rn_callM c2 0 rfl (M4.dice hD) (M4.tab hT) (ea_cons (EL.ed (EL.is (el_listR2 ed_int (ed_var 5 rfl (.int _)) (RgOk.of_le (by decide) (by omega) (by decide) (by omega))) (rgD_ints 1 Bd))) ea_nil) ⟨rgI 1 Bd, rfl, by rw [rgI_len]; omega⟩ fun d v H5 hp m5 dv => ?_)))))
  obtain ⟨ns, ms, e, hperm, rfl⟩ := hp
  have hms : ms.Perm (rgI 1 Bd) := by
    injection e with e
    injection e with e
    have inj : ∀ (a b : List Int), a.map PyData.int = b.map PyData.int → a = b := by
      intro a
      induction a with
      | nil =>
        intro b h
        cases b with
        | nil => rfl
        | cons x r => cases h
      | cons y t ih =>
        intro b h
        cases b with
        | nil => cases h
        | cons x r =>
          rw [List.map_cons, List.map_cons] at h
          injection h with h1 h2
          injection h1 with h1
          rw [h1, ih r h2]
    rw [inj _ _ e]
    exact hperm
  obtain ⟨a5, x5, rfl, hx5, hd5⟩ := dp_lst dv
  have t5 : ExT H4 H5 := m5.t (M4.dice hD)
  have M5 := M4.trans m5
  refine eo_none (H := H5) H5 (Evl.Ex.refl _) _ fun H6 q6 => eo_some (ed_var 4 rfl (.int _)) H6 (Evl.Ex.refl _) _ fun H7 q7 => ⟨a5, x5, rfl, ex_l (q6.trans q7) hx5, fun p hp => ?_⟩
  have hc := cut_dpa ((q6.trans q7).dpa hd5) none (some ((gs.length - 1 : Nat) : Int))
  rw [cut_to, ← List.map_take] at hc
  have hci := dpa_ints_eq hc
  have hle : (ms.take (gs.length - 1)).length < 64 := by
    rw [List.length_take]
    omega
  refine ⟨p, ms.take (gs.length - 1), rfl, ?_, hle, fun ns' l hp' hso hl => ?_⟩
  · rw [hci]
    exact sq_of upd_same
  have ens : ns' = srt (ms.take (gs.length - 1)) := sorted_one (hp'.trans (srt_perm _).symm) hso (srt_sorted _)
  have nd1 : ns'.Nodup := hp'.nodup_iff.mpr ((hms.nodup_iff.mpr (rgI_nodup 1 Bd)).sublist (List.take_sublist _ _))
  have hstr := strict_of hso nd1
  have hrng : ∀ t ∈ ns', 0 < t ∧ t < Bd := fun t ht => by
    have h1 := rgI_mem (hms.mem_iff.mp (List.mem_of_mem_take (hp'.mem_iff.mp ht)))
    omega
  have hnl : ns'.length + 1 = gs.length := by
    rw [hp'.length_eq, List.length_take, hms.length_eq, rgI_len]
    omega
  have q8 : Ex H7 (upd (upd H7 p (.lst (cutV x5 none (some ((gs.length - 1 : Nat) : Int))))) l (.lst (ns'.map V.int))) := (Evl.Ex.new hp).trans (Evl.Ex.new hl)
  have hl8 : (upd (upd H7 p (.lst (cutV x5 none (some ((gs.length - 1 : Nat) : Int))))) l (.lst (ns'.map V.int))) l = some (.lst (ns'.map V.int)) := upd_same
  generalize (upd (upd H7 p (.lst (cutV x5 none (some ((gs.length - 1 : Nat) : Int))))) l (.lst (ns'.map V.int))) = H8 at q8 hl8
  have Q8 := (q6.trans q7).trans q8
  have M8 := M5.trans (Mv.ex Q8)
  have d28 := dp_exT (t5.trans Q8.t) _ _ (noL_ints ws) d24
  have d38 := dp_exT (t5.trans Q8.t) _ _ (show noL (.tuple (gs.map igs)) = true from nls) d34
  -- found
  refine sb_cons (st_asgL 7 (el_lst ea_nil) fun pf xf H9 hpf q9 hxf dxf => ?_)
  cases dxf
  have ntf : NT H pf := nt_mv M8 hD hpf
  have nlf : l ≠ pf := ne_of_none hl8 hpf
  refine sb_cons (st_for (ei_enumT (ed_var 2 rfl (q9.dp d28)) (noLs_igs ws)) fun H10 q10 => ⟨fun j σ' H' => ∃ (y8 y9 y10 : Option V) (ys : List V), σ' = [some (.ref r), some v1, some v2, some v3, some (.int ((gs.length - 1 : Nat) : Int)), some (.int Bd), some (.ref l), some (.ref pf), y8, y9, y10, none, none] ∧ ExT H10 H' ∧ Mv T r H H' ∧ H' l = some (.lst (ns'.map V.int)) ∧ H' pf = some (.lst ys) ∧ DpAll X.K H' ys (((ptL gs Bd (0 :: ns') 0 ws).take j).map fr),
    ⟨none, none, none, [], rfl, ExT.refl _, M8.trans (Mv.ex (q9.trans q10)), q10 l _ (q9 l _ hl8), q10 pf _ hxf, .nil⟩, fun j σ' H' h => by obtain ⟨_, _, _, _, _, h, _⟩ := h; exact h, fun j d v σ' H' H'' hd hP q11 dv => ?_, fun σ' H11 hP => ?_⟩)
  · obtain ⟨y8, y9, y10, ys, rfl, hE, M, hl', hpf', dR⟩ := hP
    have hdm := List.mem_of_getElem? hd
    rw [enD_get, Nat.zero_add] at hd
    cases ed : (ws.map PyData.int)[j]? with
    | none => rw [ed] at hd; cases hd
    | some d' =>
      rw [ed] at hd
      have hd := (Option.some.inj hd).symm
      subst hd
      obtain ⟨x, hx, rfl⟩ : ∃ x, ws[j]? = some x ∧ d' = .int x := by
        rw [List.getElem?_map] at ed
        cases e : ws[j]? with
        | none => rw [e] at ed; cases ed
        | some x =>
          rw [e] at ed
          exact ⟨x, rfl, (Option.some.inj ed).symm⟩
      have hj : j < ws.length := (List.getElem?_eq_some_iff.mp hx).1
      refine tg_two 8 9 dv fun v8 v9 d8 d9 => ?_
      cases d8
      cases d9
      have d3' := dp_exT ((q9.trans q10).t.trans (hE.trans q11.t)) _ _ (show noL (.tuple (gs.map igs)) = true from nls) d38
      have hpne := plc_ne 0 gs j (W.ord.has hj)
      obtain ⟨p0, pr, hpl⟩ : ∃ p0 pr, plc 0 gs j = p0 :: pr := by
        cases e : plc 0 gs (j : Int) with
        | nil => exact absurd e hpne
        | cons a r => exact ⟨a, r, rfl⟩
      have hp0 := plc_mem 0 gs j p0 (by rw [hpl]; exact List.mem_cons_self ..)
      rw [Nat.zero_add] at hp0
      have hpl0 : place gs j = p0 := by
        unfold place
        rw [hpl]
        rfl
      refine sb_cons (st_asg 10 (d := .int p0) (ed_ixL (EL.ed (EL.is (el_lc2 (own := [("_law_at", 11), ("_law_group", 12)]) 11 12 (inI j) (fun d => match d with | .tuple [a, _] => a | _ => PyData.none) (ei_enumT (ed_var 3 rfl d3') nls) (fun d hd => en_pair hd) (fun d1' d2' hd v1 v2 H''' q''' e1 e2 => ?_) (fun d hd => ?_) (by rw [enD_len, hlen]; omega)) (plc_enum j 0 gs))) ed_int (by rw [hpl]; exact atI_nat (j := 0) rfl)) fun v10 H12 q12 d10 => ?_)
      · obtain ⟨i', rfl, hi'⟩ := en_mem hd
        obtain ⟨g, hg, rfl⟩ := List.mem_map.mp (List.mem_of_getElem? hi')
        refine ⟨bt_one fun s0 H0 A cl fp C' => ET.is (et_cmp od_inT (ed_var 8 rfl (.int (j : Int))) (ed_var 12 rfl e2)) ?_, fun _ s0 H0 A cl fp C' => ed_var 11 rfl e1⟩
        exact (any_int j g).symm
      · obtain ⟨d1, d2, rfl⟩ := en_pair hd
        obtain ⟨i', rfl, hi'⟩ := en_mem hd
        rfl
      cases d10
      obtain ⟨t0, ht0⟩ : ∃ t0, (0 :: ns')[p0.toNat]? = some t0 := ⟨_, List.getElem?_eq_getElem (by rw [List.length_cons]; omega)⟩
      have ht0' : ((0 :: ns').map PyData.int)[p0.toNat]? = some (.int t0) := by rw [List.getElem?_map, ht0]; rfl
      have hat := atI_nat ht0'
      rw [show ((p0.toNat : Nat) : Int) = p0 by omega] at hat
      have hx4 := W.wh x (List.mem_of_getElem? hx)
      have hl12 := q12 l _ (q11 l _ hl')
      have hpf12 := q12 pf _ (q11 pf _ hpf')
      have hsx : Sm 10 x := sm_small (by omega)
      have hsb : Sm 10 Bd := sm_small (by omega)
      refine sb_one (st_exprR (rn_app 7 rfl hpf12 ((ed_call (d := fr (low (x * Bd + t0) Bd)) c3 (ea_cons (ed_bin od_add (ed_bin (od_mul (hsx.mulW hsb)) (ed_var 9 rfl (.int x)) (ed_var 5 rfl (.int Bd))) (ed_ixL (EL.ed (EL.is (el_cat (EL.pl (el_lst (ea_cons ed_int ea_nil))) (pl_var 6 rfl hl12 (dpa_ints ns')) (by rw [List.length_map]; simp only [List.length_cons, List.length_nil]; omega)) (ds1 := (0 :: ns').map PyData.int) rfl)) (ed_var 10 rfl (.int p0)) hat)) (ea_cons (ed_var 5 rfl (.int Bd)) ea_nil)) ⟨_, _, rfl, by omega, hsb.mono (by decide), rfl⟩).go fun v13 H13 q13 d13 => ?_)))
      have hpf13 := q13 pf _ hpf12
      have tt : ExT H13 (upd H13 pf (.lst (ys ++ [v13]))) := ExT.lst hpf13
      refine ⟨ys, hpf13, by rw [dpa_len dR, List.length_map, List.length_take]; omega, some (.int j), some (.int x), some (.int p0), ys ++ [v13], rfl, ((hE.trans q11.t).trans (q12.trans q13).t).trans tt, mv_mut ((M.trans (Mv.ex q11)).trans (Mv.ex (q12.trans q13))) hD ntf hpf13, ?_, upd_same, ?_⟩
      · rw [upd_ne nlf]
        exact q13 l _ hl12
      · have hg := ptL_get gs Bd (0 :: ns') 0 ws j
        rw [hx, Nat.zero_add, hpl0] at hg
        rw [List.take_add_one, hg]
        show DpAll X.K _ _ (((ptL gs Bd (0 :: ns') 0 ws).take j ++ [low (x * Bd + (0 :: ns').getD p0.toNat 0) Bd]).map fr)
        rw [List.map_append, show (0 :: ns').getD p0.toNat 0 = t0 by rw [List.getD_eq_getElem?_getD, ht0]; rfl]
        exact dpa_app (dpa_exT tt _ _ (noLs_map fr noL_fr _) ((q11.trans (q12.trans q13)).dpa dR)) (dpa_one (dp_exT tt _ _ (noL_fr _) d13))
  · obtain ⟨y8, y9, y10, ys, rfl, hE, M, hl', hpf', dR⟩ := hP
    rw [enD_len, List.length_map, ← ptL_len gs Bd (0 :: ns') 0 ws, List.take_length] at dR
    exact sb_one (st_ret (ed_tupL (ed_var 7 rfl (.lst (sq_of hpf') dR))) fun v H12 q12 dv => q _ v H12 ⟨(ws, gs), Bd, ns', rfl, hnl, hstr, hrng, by omega, hBd1, rfl⟩ (M.trans (Mv.ex q12)) dv)
end
end K9

namespace K9
open PySem PySem.Spec PyProof.Rows L2 KD
/-! ### plain facts that the walks need: waits -/
structure AllD (r : List (Int × Int)) : Prop where
  d : ∀ q ∈ r, Drawn q
  l1 : 1 ≤ r.length
  l3 : r.length ≤ 3
theorem AllD.val {r : List (Int × Int)} (h : AllD r) : Val r := ⟨fun q hq => ⟨(h.d q hq).1, (h.d q hq).2.1⟩, h.l1, h.l3⟩
theorem AllD.ok2 {r : List (Int × Int)} (h : AllD r) : ∀ q ∈ r, Ok2 200 q := fun q hq => (h.d q hq).1.ok.ok2
def hasFour (c : Cls) : Bool := (c.2.headD []).any fun i => c.1.getD i.toNat 0 == 4
theorem next_four {c : Cls} (h : hasFour c = true) : nextOf c = none := by
  unfold nextOf
  have hne : ¬ c.2.headD [] = [] := fun z => by
    unfold hasFour at h
    rw [z] at h
    cases h
  rw [if_neg hne]
  exact if_pos h
theorem AllD.pos {r : List (Int × Int)} (h : AllD r) : PosR r := h.val.pos
def laterF (r : List (Int × Int)) (u : Int × Int) : List (Int × Int) := r.map fun q => addQ q u
def partQ (r : List (Int × Int)) (k : Int) : Int × Int := mulQ (waitW r).1 (low k 10)
def MB : Int := 100000000000000000001
theorem le_is {D G k : Int} {g q : Int × Int} (hD : 0 < D) (hg : 0 < g.2) (hq : 0 < q.2) (h1 : Is D G g) (h2 : Is D k q) : leQ g q = true ↔ G ≤ k := by
  unfold leQ
  rw [decide_eq_true_eq]
  unfold Is at h1 h2
  have hgq : 0 < g.2 * q.2 := Int.mul_pos hg hq
  have e1 : (g.1 * q.2) * D = G * (g.2 * q.2) := by
    rw [Int.mul_assoc, Int.mul_comm q.2 D, ← Int.mul_assoc, h1, Int.mul_assoc]
  have e2 : (q.1 * g.2) * D = k * (g.2 * q.2) := by
    rw [Int.mul_assoc, Int.mul_comm g.2 D, ← Int.mul_assoc, h2, Int.mul_assoc, Int.mul_comm q.2 g.2]
  constructor
  · intro h
    have h3 := Int.mul_le_mul_of_nonneg_right h (Int.le_of_lt hD)
    rw [e1, e2] at h3
    exact Int.le_of_mul_le_mul_right h3 hgq
  · intro h
    have h3 := Int.mul_le_mul_of_nonneg_right h (Int.le_of_lt hgq)
    rw [← e1, ← e2] at h3
    exact Int.le_of_mul_le_mul_right h3 hD
theorem is_res {r : List (Int × Int)} (h : PosR r) {q : Int × Int} (hq : q ∈ r) : Is (prodB r) (keyQ r q) (resQ q) :=
  is_low (Int.emod_nonneg _ (by have := (h q hq).2; omega)) (h q hq).2 (div_cross (h q hq).2 (pos_B h) (is_num h hq)).2
theorem great_fold {r : List (Int × Int)} (h : PosR r) (hM : ∀ q ∈ r, q.2 ≤ MB) : ∀ (L : List (Int × Int)) (g : Int × Int) (G : Int), (∀ q ∈ L, q ∈ r) → Is (prodB r) G g → 0 < g.2 → g.2 ≤ MB → 0 ≤ G →
    ∃ G', Is (prodB r) G' ((L.map resQ).foldl (fun g q => if leQ g q = true then q else g) g) ∧ 0 < ((L.map resQ).foldl (fun g q => if leQ g q = true then q else g) g).2 ∧ ((L.map resQ).foldl (fun g q => if leQ g q = true then q else g) g).2 ≤ MB ∧ G ≤ G' ∧ (∀ q ∈ L, keyQ r q ≤ G') ∧ (G' = G ∨ ∃ q ∈ L, keyQ r q = G')
  | [], g, G, _, h1, h2, h3, _ => ⟨G, h1, h2, h3, Int.le_refl _, fun _ z => (nomatch z), .inl rfl⟩
  | q :: L, g, G, hL, h1, h2, h3, h4 => by
    have hq := hL q (List.mem_cons_self ..)
    have hp := (h q hq)
    have hr := low_prop (t := q.1 % q.2) (Int.emod_nonneg _ (by omega)) hp.2
    have hkr := key_rng h q
    have hle := le_is (pos_B h) h2 (q := resQ q) hr.2.1 h1 (is_res h hq)
    rw [List.map_cons, List.foldl_cons]
    by_cases hc : leQ g (resQ q) = true
    · rw [if_pos hc]
      obtain ⟨G', a1, a2, a3, a4, a5, a6⟩ := great_fold h hM L (resQ q) (keyQ r q) (fun x hx => hL x (List.mem_cons_of_mem _ hx)) (is_res h hq) hr.2.1 (Int.le_trans hr.2.2.1 (hM q hq)) hkr.1
      have := hle.mp hc
      refine ⟨G', a1, a2, a3, by omega, fun x hx => ?_, ?_⟩
      · rcases List.mem_cons.mp hx with rfl | hx
        · exact a4
        · exact a5 x hx
      · right
        rcases a6 with a6 | ⟨x, hx, e⟩
        · exact ⟨q, List.mem_cons_self .., a6.symm⟩
        · exact ⟨x, List.mem_cons_of_mem _ hx, e⟩
    · rw [if_neg hc]
      obtain ⟨G', a1, a2, a3, a4, a5, a6⟩ := great_fold h hM L g G (fun x hx => hL x (List.mem_cons_of_mem _ hx)) h1 h2 h3 h4
      have : ¬ G ≤ keyQ r q := fun z => hc (hle.mpr z)
      refine ⟨G', a1, a2, a3, a4, fun x hx => ?_, ?_⟩
      · rcases List.mem_cons.mp hx with rfl | hx
        · omega
        · exact a5 x hx
      · rcases a6 with a6 | ⟨x, hx, e⟩
        · exact .inl a6
        · exact .inr ⟨x, List.mem_cons_of_mem _ hx, e⟩
theorem is_lt {D a : Int} {q : Int × Int} {m : Int} (hD : 0 < D) (hq : 0 < q.2) (h : Is D a q) (hm : a ≤ m * D) : q.1 ≤ m * q.2 := by
  unfold Is at h
  have h1 : q.1 * D ≤ (m * q.2) * D := by
    rw [h, Int.mul_assoc, Int.mul_comm q.2 D, ← Int.mul_assoc]
    exact Int.mul_le_mul_of_nonneg_right hm (Int.le_of_lt hq)
  exact Int.le_of_mul_le_mul_right h1 hD
theorem later_q {E a c : Int} {q u : Int × Int} (hE : 0 < E) (hq0 : 0 ≤ q.1) (hq : 0 < q.2) (hqM : q.2 ≤ MB) (hu0 : 0 ≤ u.1) (hu : 0 < u.2) (huM : u.2 ≤ 20 * MB) (h1 : Is E a q) (h2 : Is E c u) (h : a + c ≤ 4 * E) : Good (addQ q u) ∧ (addQ q u).1 ≤ 4 * (addQ q u).2 ∧ 0 < (addQ q u).2 ∧ Is E (a + c) (addQ q u) := by
  have his := is_add hq0 hq hu0 hu h1 h2
  have h0 : 0 ≤ q.1 * u.2 + u.1 * q.2 := Int.add_nonneg (Int.mul_nonneg hq0 (Int.le_of_lt hu)) (Int.mul_nonneg hu0 (Int.le_of_lt hq))
  have hb := Int.mul_pos hq hu
  obtain ⟨_, p2, p3, p4, _, p6, _⟩ := low_prop h0 hb
  have h4 := is_lt hE p2 his h
  have hm : q.2 * u.2 ≤ MB * (20 * MB) := Int.mul_le_mul hqM huM (Int.le_of_lt hu) (by decide)
  have p3' : (addQ q u).2 ≤ MB * (20 * MB) := Int.le_trans p3 hm
  have em : MB * (20 * MB) < 10000000000000000000000000000000000000000000000 := by decide
  have h4' : (addQ q u).1 ≤ 4 * (addQ q u).2 := h4
  refine ⟨⟨p4, p2, ?_, ?_, p6⟩, h4, p2, his⟩
  · show (addQ q u).1 < GREAT
    unfold GREAT
    omega
  · show (addQ q u).2 < GREAT
    unfold GREAT
    omega
theorem cls_len (r : List (Int × Int)) : (clsOf r).1.length = r.length := List.length_map ..
theorem next_some {r : List (Int × Int)} (h : AllD r) (h4 : hasFour (clsOf r) = false) : ∃ c', nextOf (clsOf r) = some c' ∧ Ok2 1000 (waitW r).1 ∧ Val (laterF r (waitW r).1) ∧ clsOf (laterF r (waitW r).1) = c' ∧
    ∀ k : Int, 1 ≤ k → k ≤ 9 → Ok2 1000 (partQ r k) ∧ (∀ q ∈ laterF r (partQ r k), Ok2 200 q) ∧ clsOf (laterF r (partQ r k)) = if (waitW r).2 = true then clsOf r else c' := by
  have hP := h.pos
  have hMB : (0 : Int) < MB := by decide
  have hD := pos_B hP
  have hM : ∀ q ∈ r, q.2 ≤ MB := fun q hq => (h.d q hq).2.2
  have ec := cls_eq hP
  obtain ⟨G, g1, g2, g3, g4, g5, g6⟩ := great_fold hP hM r (0, 1) 0 (fun _ z => z) (by unfold Is; simp) (by decide) (by decide) (Int.le_refl _)
  have hgF : greatF (r.map resQ) = (r.map resQ).foldl (fun g q => if leQ g q = true then q else g) (0, 1) := rfl
  rw [← hgF] at g1 g2 g3
  have hGD : G < prodB r := by
    rcases g6 with rfl | ⟨q, _, rfl⟩
    · exact hD
    · exact (key_rng hP q).2
  clear hgF
  generalize hgg : greatF (r.map resQ) = g at g1 g2 g3
  have glt : g.1 ≤ g.2 := by
    have := is_lt (m := 1) hD g2 g1 (by omega)
    omega
  have hl0 : 0 ≤ g.2 - g.1 := by omega
  have hleft : leftW r = low (g.2 - g.1) g.2 := by
    unfold leftW
    rw [hgg]
  have isL : Is (prodB r) (prodB r - G) (leftW r) := by
    rw [hleft]
    refine is_low hl0 g2 ?_
    unfold Is at g1
    rw [Int.sub_mul, Int.sub_mul, g1, Int.mul_comm g.2]
  have lp := low_prop hl0 g2
  rw [← hleft] at lp
  -- whole numbers below four
  have hw3 : ∀ q ∈ r, numQ r q / prodB r ≤ 3 := fun q hq => by
    rw [← fl_eq hP hq]
    have hf := four_key (h.d q hq).1.1 (h.d q hq).1.2.1 (h.d q hq).2.1
    by_cases z : q.1 / q.2 = 4
    · exfalso
      obtain ⟨i, hi⟩ := List.getElem?_of_mem hq
      have hk0 := (key_zero hP hq).mpr (hf.2.2 z)
      have hmem : (i : Int) ∈ (clsOf r).2.headD [] := by
        rw [show (clsOf r).2 = ordOf (r.map (keyQ r)) by rw [ec], head_ord (keys_nn hP)]
        exact mem_ixs.mpr ⟨i, by rw [List.getElem?_map, hi]; show some (keyQ r q) = some 0; rw [hk0], rfl⟩
      have ht : hasFour (clsOf r) = true := by
        unfold hasFour
        refine List.any_eq_true.mpr ⟨i, hmem, ?_⟩
        show ((r.map fun q => q.1 / q.2).getD (i : Int).toNat 0 == 4) = true
        rw [List.getD_eq_getElem?_getD, Int.toNat_natCast, List.getElem?_map, hi]
        show ((q.1 / q.2) == 4) = true
        rw [z]
        rfl
      rw [ht] at h4
      cases h4
    · omega
  have hnum : ∀ q, numQ r q = keyQ r q + prodB r * (numQ r q / prodB r) := fun q => (Int.emod_add_mul_ediv _ _).symm
  have hin : (0, 1) ∈ r.map resQ ↔ 0 ∈ r.map (keyQ r) := by
    rw [List.mem_map, List.mem_map]
    constructor
    · rintro ⟨q, hq, e⟩
      refine ⟨q, hq, ?_⟩
      have := is_res hP hq
      rw [e] at this
      unfold Is at this
      simp only [Int.zero_mul, Int.mul_one] at this
      exact this.symm
    · rintro ⟨q, hq, e⟩
      refine ⟨q, hq, ?_⟩
      have h1 := is_res hP hq
      rw [e] at h1
      unfold Is at h1
      rw [Int.zero_mul] at h1
      have hz : (resQ q).1 = 0 := by
        rcases Int.mul_eq_zero.mp h1 with z | z
        · exact z
        · omega
      exact can_eq (can_res (hP q hq).2) ⟨by decide, by decide, by decide +kernel⟩ (by rw [hz]; simp)
  have h10 : ∀ k : Int, 1 ≤ k → Is 10 k (low k 10) ∧ 0 ≤ (low k 10).1 ∧ 0 < (low k 10).2 ∧ (low k 10).2 ≤ 10 := fun k hk => by
    have hp := low_prop (t := k) (b := 10) (by omega) (by decide)
    exact ⟨is_low (by omega) (by decide) rfl, hp.2.2.2.1, hp.2.1, hp.2.2.1⟩
  have okOf : ∀ {E c : Int} {u : Int × Int}, 0 < E → Is E c u → 0 ≤ u.1 → 0 < u.2 → u.2 ≤ 20 * MB → c ≤ E → Ok2 1000 u := fun {E c u} hE hi h0 h1 h2 h3 => by
    have := is_lt (m := 1) hE h1 hi (by omega)
    have hs : Sm 100 u.2 := by
      unfold Sm
      unfold MB at h2
      omega
    exact ⟨h0, h1, (Sm.le h0 (by omega) hs).mono (by decide), hs.mono (by decide)⟩
  have mulB : ∀ {u v : Int × Int}, 0 ≤ u.1 → 0 < u.2 → 0 ≤ v.1 → 0 < v.2 → 0 ≤ (mulQ u v).1 ∧ 0 < (mulQ u v).2 ∧ (mulQ u v).2 ≤ u.2 * v.2 := fun {u v} a b c d => by
    have hp := low_prop (Int.mul_nonneg a c) (Int.mul_pos b d)
    exact ⟨hp.2.2.2.1, hp.2.1, hp.2.2.1⟩
  -- any wait that reaches no whole
  have shift : ∀ (s t : Int) (u : Int × Int), 0 < s → 0 < t → s * G + t < s * prodB r → Is (s * prodB r) t u → 0 ≤ u.1 → 0 < u.2 → u.2 ≤ 20 * MB → (∀ q ∈ laterF r u, Good q ∧ q.1 ≤ 4 * q.2) ∧ clsOf (laterF r u) = ((clsOf r).1, if 0 ∈ r.map (keyQ r) then [] :: (clsOf r).2 else (clsOf r).2) := by
    intro s t u hs ht hlt hu u0 u1 u2
    have hE : 0 < s * prodB r := Int.mul_pos hs hD
    have each : ∀ q ∈ r, Good (addQ q u) ∧ (addQ q u).1 ≤ 4 * (addQ q u).2 ∧ 0 < (addQ q u).2 ∧ Is (s * prodB r) (s * numQ r q + t) (addQ q u) := fun q hq => by
      refine later_q hE (hP q hq).1 (hP q hq).2 (hM q hq) u0 u1 u2 (is_scale s (is_num hP hq)) hu ?_
      have h1 := hw3 q hq
      have h2 := Int.mul_le_mul_of_nonneg_left (g5 q hq) (Int.le_of_lt hs)
      have h3 : s * numQ r q = s * keyQ r q + (s * prodB r) * (numQ r q / prodB r) := by
        conv => lhs; rw [hnum q]
        rw [Int.mul_add, Int.mul_assoc]
      have h5 := Int.mul_le_mul_of_nonneg_left h1 (Int.le_of_lt hE)
      omega
    refine ⟨fun q hq => ?_, ?_⟩
    · obtain ⟨x, hx, rfl⟩ := List.mem_map.mp hq
      exact ⟨(each x hx).1, (each x hx).2.1⟩
    · unfold laterF
      rw [cls_of r (fun q => addQ q u) (fun q => s * numQ r q + t) hE fun q hq => ⟨(each q hq).2.2.1, (each q hq).2.2.2⟩, ec]
      have dm : ∀ q ∈ r, _ := fun q hq => dm_shift (a := numQ r q) hD hs ht (g5 q hq) hlt
      refine Prod.ext ?_ ?_
      · exact List.map_congr_left fun q hq => (dm q hq).1
      · show ordOf (r.map fun q => (s * numQ r q + t) % (s * prodB r)) = _
        rw [show (r.map fun q => (s * numQ r q + t) % (s * prodB r)) = (r.map (keyQ r)).map fun x => s * x + t by
          rw [List.map_map]
          exact List.map_congr_left fun q hq => (dm q hq).2]
        exact ord_shift (keys_nn hP) hs ht
  have lateLen : ∀ u, (laterF r u).length = r.length := fun u => List.length_map ..
  have kb : ∀ k : Int, 1 ≤ k → k ≤ 9 → 0 < (prodB r - G) * k ∧ (prodB r - G) * k ≤ (prodB r - G) * 9 := fun k hk hk9 => ⟨Int.mul_pos (by omega) (by omega), Int.mul_le_mul_of_nonneg_left hk9 (by omega)⟩
  by_cases h0 : 0 ∈ r.map (keyQ r)
  · -- a clock stands at a whole
    have hw : waitW r = (mulQ (leftW r) (1, 2), false) := by
      unfold waitW
      rw [if_pos (hin.mpr h0)]
    have hne : ¬ (clsOf r).2.headD [] = [] := by
      rw [show (clsOf r).2 = ordOf (r.map (keyQ r)) by rw [ec], head_ord (keys_nn hP)]
      exact ixs_ne h0
    have hnx : nextOf (clsOf r) = some ((clsOf r).1, [] :: (clsOf r).2) := by
      unfold nextOf
      rw [if_neg hne, if_neg]
      exact fun z => by
        have z' : hasFour (clsOf r) = true := z
        rw [z'] at h4
        cases h4
    have isW : Is (prodB r * 2) ((prodB r - G) * 1) (mulQ (leftW r) (1, 2)) := is_mul lp.2.2.2.1 lp.2.1 (by decide) (by decide) isL (by unfold Is; rfl)
    have wb := mulB (u := leftW r) (v := (1, 2)) lp.2.2.2.1 lp.2.1 (by decide) (by decide)
    have wM : (mulQ (leftW r) (1, 2)).2 ≤ 2 * MB := by
      have h1 : (leftW r).2 ≤ MB := Int.le_trans lp.2.2.1 g3
      have h2 : (leftW r).2 * (1, 2).2 = (leftW r).2 * 2 := rfl
      omega
    rw [hw]
    have isW' : Is (2 * prodB r) (prodB r - G) (mulQ (leftW r) (1, 2)) := by
      rw [Int.mul_comm 2, ← Int.mul_one (prodB r - G)]
      exact isW
    obtain ⟨s1, s2⟩ := shift 2 (prodB r - G) _ (by decide) (by omega) (by omega) isW' wb.1 wb.2.1 (by omega)
    rw [if_pos h0] at s2
    have hOk : Ok2 1000 (mulQ (leftW r) (1, 2)) := okOf (by omega) isW' wb.1 wb.2.1 (by omega) (by omega)
    refine ⟨_, hnx, hOk, ⟨s1, by rw [lateLen]; exact h.l1, by rw [lateLen]; exact h.l3⟩, s2, fun k hk hk9 => ?_⟩
    obtain ⟨i1, i2, i3, i4⟩ := h10 k hk
    have isP : Is (prodB r * 2 * 10) ((prodB r - G) * 1 * k) (mulQ (mulQ (leftW r) (1, 2)) (low k 10)) := is_mul wb.1 wb.2.1 i2 i3 isW i1
    have pb := mulB (u := mulQ (leftW r) (1, 2)) (v := low k 10) wb.1 wb.2.1 i2 i3
    have pM : (mulQ (mulQ (leftW r) (1, 2)) (low k 10)).2 ≤ 20 * MB := by
      have := Int.mul_le_mul_of_nonneg_left i4 (Int.le_of_lt wb.2.1)
      omega
    have epart : partQ r k = mulQ (mulQ (leftW r) (1, 2)) (low k 10) := by
      unfold partQ
      rw [hw]
    rw [epart]
    have isP' : Is (20 * prodB r) ((prodB r - G) * k) (mulQ (mulQ (leftW r) (1, 2)) (low k 10)) := by
      rw [Int.mul_one, show prodB r * 2 * 10 = 20 * prodB r by omega] at isP
      exact isP
    have hkb := kb k hk hk9
    obtain ⟨t1, t2⟩ := shift 20 ((prodB r - G) * k) _ (by decide) hkb.1 (by omega) isP' pb.1 pb.2.1 pM
    rw [if_pos h0] at t2
    refine ⟨okOf (by omega) isP' pb.1 pb.2.1 pM (by omega), fun q hq => (t1 q hq).1.ok.ok2, ?_⟩
    rw [t2]
    rfl
  · -- none does
    have hw : waitW r = (leftW r, true) := by
      unfold waitW
      rw [if_neg fun z => h0 (hin.mp z)]
    have hkp : ∀ x ∈ r.map (keyQ r), 0 < x ∧ x ≤ G := fun x hx => by
      obtain ⟨q, hq, rfl⟩ := List.mem_map.mp hx
      have h1 := (key_rng hP q).1
      have h2 : keyQ r q ≠ 0 := fun z => h0 (List.mem_map.mpr ⟨q, hq, z⟩)
      exact ⟨by omega, g5 q hq⟩
    have hGm : G ∈ r.map (keyQ r) := by
      rcases g6 with z | ⟨q, hq, e⟩
      · obtain ⟨q, hq⟩ := List.exists_mem_of_length_pos (show 0 < r.length by have := h.l1; omega)
        have := hkp _ (List.mem_map.mpr ⟨q, hq, rfl⟩)
        omega
      · exact List.mem_map.mpr ⟨q, hq, e⟩
    obtain ⟨o1, o2, o3⟩ := ord_top hkp hGm hGD
    have e2 : (clsOf r).2 = ordOf (r.map (keyQ r)) := by rw [ec]
    have e1 : (clsOf r).1 = r.map fun q => numQ r q / prodB r := by rw [ec]
    have hnx : nextOf (clsOf r) = some (raiseF 0 (clsOf r).1 ((clsOf r).2.getLastD []), (clsOf r).2.getLastD [] :: (clsOf r).2.tail.dropLast) := by
      unfold nextOf
      rw [if_pos (by rw [e2]; exact o3)]
    have lM : (leftW r).2 ≤ MB := Int.le_trans lp.2.2.1 g3
    have each : ∀ q ∈ r, Good (addQ q (leftW r)) ∧ (addQ q (leftW r)).1 ≤ 4 * (addQ q (leftW r)).2 ∧ 0 < (addQ q (leftW r)).2 ∧ Is (prodB r) (numQ r q + (prodB r - G)) (addQ q (leftW r)) := fun q hq => by
      refine later_q hD (hP q hq).1 (hP q hq).2 (hM q hq) lp.2.2.2.1 lp.2.1 (by omega) (is_num hP hq) isL ?_
      have h1 := hw3 q hq
      have h2 := g5 q hq
      have h3 := hnum q
      have h5 := Int.mul_le_mul_of_nonneg_left h1 (Int.le_of_lt hD)
      omega
    rw [hw]
    have hOk : Ok2 1000 (leftW r) := okOf hD isL lp.2.2.2.1 lp.2.1 (by omega) (by omega)
    refine ⟨_, hnx, hOk, ⟨fun q hq => ?_, by rw [lateLen]; exact h.l1, by rw [lateLen]; exact h.l3⟩, ?_, fun k hk hk9 => ?_⟩
    · obtain ⟨x, hx, rfl⟩ := List.mem_map.mp hq
      exact ⟨(each x hx).1, (each x hx).2.1⟩
    · show clsOf (r.map fun q => addQ q (leftW r)) = _
      rw [cls_of r (fun q => addQ q (leftW r)) (fun q => numQ r q + (prodB r - G)) hD fun q hq => ⟨(each q hq).2.2.1, (each q hq).2.2.2⟩]
      have dm : ∀ q ∈ r, _ := fun q hq => dm_top (a := numQ r q) hD (g5 q hq) hGD (hkp _ (List.mem_map.mpr ⟨q, hq, rfl⟩)).1
      refine Prod.ext ?_ ?_
      · show (r.map fun q => (numQ r q + (prodB r - G)) / prodB r) = raiseF 0 (clsOf r).1 ((clsOf r).2.getLastD [])
        rw [e1, e2, o2, raise_eq (fun q => numQ r q / prodB r) (fun q => keyQ r q = G) (ixs (r.map (keyQ r)) G) 0 r fun j x hx => ?_]
        · exact List.map_congr_left fun q hq => (dm q hq).1
        · rw [Nat.zero_add, mem_ixs]
          constructor
          · rintro ⟨j2, hj2, e⟩
            have : j = j2 := by omega
            subst this
            rw [List.getElem?_map, hx] at hj2
            exact Option.some.inj hj2
          · intro e
            exact ⟨j, by rw [List.getElem?_map, hx]; show some (keyQ r x) = some G; rw [e], rfl⟩
      · show ordOf (r.map fun q => (numQ r q + (prodB r - G)) % prodB r) = (clsOf r).2.getLastD [] :: (clsOf r).2.tail.dropLast
        rw [e2, o2, ← o1, show (r.map fun q => (numQ r q + (prodB r - G)) % prodB r) = (r.map (keyQ r)).map fun x => if x = G then 0 else x + (prodB r - G) by
          rw [List.map_map]
          exact List.map_congr_left fun q hq => (dm q hq).2]
    · obtain ⟨i1, i2, i3, i4⟩ := h10 k hk
      have isP : Is (prodB r * 10) ((prodB r - G) * k) (mulQ (leftW r) (low k 10)) := is_mul lp.2.2.2.1 lp.2.1 i2 i3 isL i1
      have pb := mulB (u := leftW r) (v := low k 10) lp.2.2.2.1 lp.2.1 i2 i3
      have pM : (mulQ (leftW r) (low k 10)).2 ≤ 20 * MB := by
        have := Int.mul_le_mul_of_nonneg_left i4 (Int.le_of_lt lp.2.1)
        have : (0 : Int) < MB := by decide
        omega
      have epart : partQ r k = mulQ (leftW r) (low k 10) := by
        unfold partQ
        rw [hw]
      rw [epart]
      have isP' : Is (10 * prodB r) ((prodB r - G) * k) (mulQ (leftW r) (low k 10)) := by
        rw [Int.mul_comm 10]
        exact isP
      have hkb := kb k hk hk9
      obtain ⟨t1, t2⟩ := shift 10 ((prodB r - G) * k) _ (by decide) hkb.1 (by omega) isP' pb.1 pb.2.1 pM
      rw [if_neg h0] at t2
      refine ⟨okOf (by omega) isP' pb.1 pb.2.1 pM (by omega), fun q hq => (t1 q hq).1.ok.ok2, ?_⟩
      rw [t2]
      rfl
end K9

namespace K9
open PySem PySem.Spec PyProof.Rows L2 KD
/-! ### back, points of a class -/
theorem drawn_zero : Drawn (0, 1) := ⟨⟨by decide, by decide, by decide, by decide, by decide +kernel⟩, by decide, by decide⟩
theorem backF_len (g : List Int) : ∀ (n : Nat) (l : List (Int × Int)), (backF n l g).length = l.length
  | _, [] => rfl
  | n, x :: r => congrArg Nat.succ (backF_len g (n + 1) r)
theorem back_in {r : List (Int × Int)} (h : AllD r) {lot : List Int} (hl : Lot r.length lot) : AllD (backF 0 r lot) ∧ clsOf (backF 0 r lot) = putOf (clsOf r) lot := by
  refine ⟨⟨fun q hq => ?_, by rw [backF_len]; exact h.l1, by rw [backF_len]; exact h.l3⟩, back_cls h.pos (fun c hc => by have := hl.1 c hc; omega) hl.2.1⟩
  rw [back_eq] at hq
  obtain ⟨p, hp, rfl⟩ := List.mem_map.mp hq
  split
  · exact drawn_zero
  · obtain ⟨x, j⟩ := p
    exact h.d x ((List.mem_zipIdx hp).2.2 ▸ List.getElem_mem _)
theorem idx_lt {A : List Int} (h : A.Pairwise (· < ·)) {x y : Int} (hx : x ∈ A) (hy : y ∈ A) (hxy : x < y) : A.idxOf x < A.idxOf y := by
  have lx := List.idxOf_lt_length_of_mem hx
  have ly := List.idxOf_lt_length_of_mem hy
  have ex : A[A.idxOf x] = x := List.getElem_idxOf lx
  have ey : A[A.idxOf y] = y := List.getElem_idxOf ly
  rcases Nat.lt_trichotomy (A.idxOf x) (A.idxOf y) with z | z | z
  · exact z
  · have : A[A.idxOf x] = A[A.idxOf y] := by simp only [z]
    omega
  · have := List.pairwise_iff_getElem.mp h _ _ ly lx z
    omega
theorem plc_levs {k : List Int} {i : Nat} {x : Int} (hi : k[i]? = some x) : ∀ (n : Nat) (A : List Int), A.Nodup → plc n (A.map (ixs k)) i = if x ∈ A then [((n + A.idxOf x : Nat) : Int)] else []
  | n, [], _ => by simp [plc]
  | n, a :: A, h => by
    have h' := List.nodup_cons.mp h
    have ih := plc_levs hi (n + 1) A h'.2
    have hm : (i : Int) ∈ ixs k a ↔ a = x := by
      rw [mem_ixs]
      constructor
      · rintro ⟨j, hj, e⟩
        have : i = j := by omega
        subst this
        rw [hi] at hj
        exact (Option.some.inj hj).symm
      · rintro rfl
        exact ⟨i, hi, rfl⟩
    show (if (i : Int) ∈ ixs k a then (n : Int) :: plc (n + 1) (A.map (ixs k)) i else plc (n + 1) (A.map (ixs k)) i) = _
    rw [ih]
    by_cases e : a = x
    · subst e
      rw [if_pos (hm.mpr rfl), if_neg h'.1, if_pos (List.mem_cons_self ..), List.idxOf_cons_self]
      rfl
    · rw [if_neg fun z => e (hm.mp z)]
      by_cases hx : x ∈ A
      · have e3 : (a :: A).idxOf x = A.idxOf x + 1 := by
          rw [List.idxOf_cons, beq_false_of_ne e]
          rfl
        rw [if_pos hx, if_pos (List.mem_cons_of_mem _ hx), e3]
        congr 2
        omega
      · rw [if_neg hx, if_neg fun z => (List.mem_cons.mp z).elim (fun w => e w.symm) hx]
theorem ptL_zip {ι : Type} (gs : List (List Int)) (D : Int) (S : List Int) (w : ι → Int) : ∀ (n : Nat) (L : List ι), ptL gs D S n (L.map w) = (List.zipIdx L n).map fun p => low (w p.1 * D + S.getD (place gs p.2).toNat 0) D
  | _, [] => rfl
  | n, x :: r => by
    show low (w x * D + S.getD (place gs n).toNat 0) D :: ptL gs D S (n + 1) (r.map w) = _
    rw [ptL_zip gs D S w (n + 1) r, List.zipIdx_cons, List.map_cons]
theorem zip_map {α β : Type} (f : α → β) : ∀ (n : Nat) (l : List α), ((List.zipIdx l n).map fun p => f p.1) = l.map f
  | _, [] => rfl
  | n, x :: r => by
    rw [List.zipIdx_cons, List.map_cons, zip_map f (n + 1) r]
    rfl
theorem place_levs {r : List (Int × Int)} (h : PosR r) {i : Nat} {q : Int × Int} (hi : r[i]? = some q) : plc 0 (clsOf r).2 i = [(((levs (r.map (keyQ r))).idxOf (keyQ r q) : Nat) : Int)] := by
  have e2 : (clsOf r).2 = (levs (r.map (keyQ r))).map (ixs (r.map (keyQ r))) := by rw [cls_eq h]; rfl
  have hk : (r.map (keyQ r))[i]? = some (keyQ r q) := by rw [List.getElem?_map, hi]; rfl
  have nd : (levs (r.map (keyQ r))).Nodup := List.nodup_iff_pairwise_ne.mpr ((levs_strict _).imp fun h => by omega)
  rw [e2, plc_levs hk 0 _ nd, if_pos ((levs_mem _ _).mpr (.inr (List.mem_of_getElem? hk))), Nat.zero_add]
theorem ptL_in {r : List (Int × Int)} (h : AllD r) {D : Int} {Ts : List Int} (h1 : Ts.length + 1 = (clsOf r).2.length) (h2 : Ts.Pairwise (· < ·)) (h3 : ∀ t ∈ Ts, 0 < t ∧ t < D) (h4 : 0 < D) (h5 : D ≤ 100) :
    AllD (ptL (clsOf r).2 D (0 :: Ts) 0 (clsOf r).1) ∧ clsOf (ptL (clsOf r).2 D (0 :: Ts) 0 (clsOf r).1) = clsOf r := by
  have hP := h.pos
  have hD := pos_B hP
  have ec := cls_eq hP
  have e1 : (clsOf r).1 = r.map fun q => numQ r q / prodB r := by rw [ec]
  have e2 : (clsOf r).2 = ordOf (r.map (keyQ r)) := by rw [ec]
  have hlen : (0 :: Ts).length = (levs (r.map (keyQ r))).length := by
    rw [List.length_cons, h1, e2]
    unfold ordOf
    rw [List.length_map]
  have hS : (0 :: Ts).Pairwise (· < ·) := List.pairwise_cons.mpr ⟨fun t ht => (h3 t ht).1, h2⟩
  have hSr : ∀ t ∈ 0 :: Ts, 0 ≤ t ∧ t < D := fun t ht => by
    rcases List.mem_cons.mp ht with rfl | ht
    · omega
    · have := h3 t ht
      omega
  let psi : Int → Int := fun x => (0 :: Ts).getD ((levs (r.map (keyQ r))).idxOf x) 0
  have psi_at : ∀ x ∈ levs (r.map (keyQ r)), ∃ hx : (levs (r.map (keyQ r))).idxOf x < (0 :: Ts).length, psi x = (0 :: Ts)[(levs (r.map (keyQ r))).idxOf x] := fun x hx => by
    have lx := List.idxOf_lt_length_of_mem hx
    refine ⟨by omega, ?_⟩
    show (0 :: Ts).getD _ 0 = _
    rw [List.getD_eq_getElem?_getD, List.getElem?_eq_getElem (by omega)]
    rfl
  have psi_rng : ∀ x ∈ levs (r.map (keyQ r)), 0 ≤ psi x ∧ psi x < D := fun x hx => by
    obtain ⟨hx', e⟩ := psi_at x hx
    rw [e]
    exact hSr _ (List.getElem_mem _)
  obtain ⟨U, hU, _, _⟩ := levs_head (keys_nn hP)
  have psi0 : psi 0 = 0 := by
    show (0 :: Ts).getD ((levs (r.map (keyQ r))).idxOf 0) 0 = 0
    rw [hU, List.idxOf_cons_self]
    rfl
  have psi_lt : ∀ x y, (x = 0 ∨ x ∈ r.map (keyQ r)) → (y = 0 ∨ y ∈ r.map (keyQ r)) → x < y → psi x < psi y := fun x y hx hy hxy => by
    have hx := (levs_mem _ x).mpr hx
    have hy := (levs_mem _ y).mpr hy
    obtain ⟨hx', ex⟩ := psi_at x hx
    obtain ⟨hy', ey⟩ := psi_at y hy
    rw [ex, ey]
    exact List.pairwise_iff_getElem.mp hS _ _ hx' hy' (idx_lt (levs_strict _) hx hy hxy)
  have keyL : ∀ q ∈ r, keyQ r q ∈ levs (r.map (keyQ r)) := fun q hq => (levs_mem _ _).mpr (.inr (List.mem_map.mpr ⟨q, hq, rfl⟩))
  have ez : ptL (clsOf r).2 D (0 :: Ts) 0 (clsOf r).1 = (List.zipIdx r 0).map fun p => low (numQ r p.1 / prodB r * D + psi (keyQ r p.1)) D := by
    rw [e1, ptL_zip]
    refine List.map_congr_left fun p hp => ?_
    obtain ⟨x, j⟩ := p
    have hj : r[j]? = some x := List.mk_mem_zipIdx_iff_getElem?.mp hp
    have hpl := place_levs hP hj
    show low (numQ r x / prodB r * D + (0 :: Ts).getD (place (clsOf r).2 j).toNat 0) D = low (numQ r x / prodB r * D + psi (keyQ r x)) D
    unfold place
    rw [hpl]
    show low (_ + (0 :: Ts).getD ((((levs (r.map (keyQ r))).idxOf (keyQ r x) : Nat) : Int)).toNat 0) D = _
    rw [Int.toNat_natCast]
  have hz1 : ∀ p ∈ List.zipIdx r 0, p.1 ∈ r := fun p hp => by
    obtain ⟨x, j⟩ := p
    exact (List.mem_zipIdx hp).2.2 ▸ List.getElem_mem _
  have hnum : ∀ q ∈ r, 0 ≤ numQ r q / prodB r * D + psi (keyQ r q) ∧ numQ r q / prodB r * D + psi (keyQ r q) ≤ 4 * D := fun q hq => by
    have hf := four_key (h.d q hq).1.1 (h.d q hq).1.2.1 (h.d q hq).2.1
    rw [fl_eq hP hq] at hf
    have hr := psi_rng _ (keyL q hq)
    have h0 := Int.mul_nonneg hf.1 (Int.le_of_lt h4)
    by_cases z : numQ r q / prodB r = 4
    · have hk := (key_zero hP hq).mpr (hf.2.2 z)
      rw [hk, psi0, z]
      omega
    · have := Int.mul_le_mul_of_nonneg_right (show numQ r q / prodB r ≤ 3 by omega) (Int.le_of_lt h4)
      omega
  rw [ez]
  refine ⟨⟨fun q hq => ?_, by rw [List.length_map, List.length_zipIdx]; exact h.l1, by rw [List.length_map, List.length_zipIdx]; exact h.l3⟩, ?_⟩
  · obtain ⟨p, hp, rfl⟩ := List.mem_map.mp hq
    have := hnum p.1 (hz1 p hp)
    exact low_drawn this.1 h4 this.2 (by omega)
  · rw [cls_of (List.zipIdx r 0) (fun p => low (numQ r p.1 / prodB r * D + psi (keyQ r p.1)) D) (fun p => numQ r p.1 / prodB r * D + psi (keyQ r p.1)) h4 fun p hp => ⟨(low_prop (hnum p.1 (hz1 p hp)).1 h4).2.1, is_low (hnum p.1 (hz1 p hp)).1 h4 rfl⟩, ec]
    have dm : ∀ p ∈ List.zipIdx r 0, (numQ r p.1 / prodB r * D + psi (keyQ r p.1)) / D = numQ r p.1 / prodB r ∧ (numQ r p.1 / prodB r * D + psi (keyQ r p.1)) % D = psi (keyQ r p.1) := fun p hp => by
      have hr := psi_rng _ (keyL p.1 (hz1 p hp))
      rw [Int.add_comm, Int.mul_comm]
      exact ⟨by rw [Int.add_mul_ediv_left _ _ (by omega), Int.ediv_eq_zero_of_lt hr.1 hr.2, Int.zero_add], by rw [Int.add_mul_emod_self_left, Int.emod_eq_of_lt hr.1 hr.2]⟩
    refine Prod.ext ?_ ?_
    · show (List.zipIdx r 0).map (fun p => (numQ r p.1 / prodB r * D + psi (keyQ r p.1)) / D) = r.map fun q => numQ r q / prodB r
      rw [List.map_congr_left fun p hp => (dm p hp).1]
      exact zip_map (fun q => numQ r q / prodB r) 0 r
    · show ordOf ((List.zipIdx r 0).map fun p => (numQ r p.1 / prodB r * D + psi (keyQ r p.1)) % D) = ordOf (r.map (keyQ r))
      rw [List.map_congr_left fun p hp => (dm p hp).2, ← ord_iso psi0 psi_lt]
      congr 1
      rw [List.map_map]
      exact zip_map (psi ∘ keyQ r) 0 r
/-! ### the told point -/
theorem putC_get (ws : List Int) (m p : Int) (i : Nat) : ∀ (g : List Int) (f : List (Int × Int)), (∀ c ∈ g, 0 ≤ c) → (g.foldl (putC ws m p) f)[i]? = if (i : Int) ∈ g then f[i]?.map fun _ => low (ws.getD i 0 * m + p) m else f[i]?
  | [], f, _ => by simp
  | c :: g, f, h => by
    have hc := h c (List.mem_cons_self ..)
    rw [List.foldl_cons, putC_get ws m p i g _ fun x hx => h x (List.mem_cons_of_mem _ hx)]
    have e : (putC ws m p f c)[i]? = if (i : Int) = c then f[i]?.map fun _ => low (ws.getD i 0 * m + p) m else f[i]? := by
      unfold putC
      rw [List.getElem?_set]
      by_cases z : (i : Int) = c
      · have z2 : c.toNat = i := by omega
        rw [if_pos z, z2, if_pos rfl]
        by_cases hl : i < f.length
        · rw [if_pos hl, List.getElem?_eq_getElem hl]
          rfl
        · rw [if_neg hl, List.getElem?_eq_none (by omega)]
          rfl
      · rw [if_neg z, if_neg (by omega)]
    rw [e]
    by_cases z : (i : Int) = c
    · rw [if_pos z, if_pos (List.mem_cons.mpr (.inl z))]
      by_cases hg : (i : Int) ∈ g
      · rw [if_pos hg]
        cases f[i]? <;> rfl
      · rw [if_neg hg]
    · rw [if_neg z]
      by_cases hg : (i : Int) ∈ g
      · rw [if_pos hg, if_pos (List.mem_cons_of_mem _ hg)]
      · rw [if_neg hg, if_neg fun w => (List.mem_cons.mp w).elim z hg]
theorem pt_get (ws : List Int) (m : Int) (i : Nat) : ∀ (hs : List (List Int)) (p : Nat) (f : List (Int × Int)), (∀ g ∈ hs, ∀ c ∈ g, 0 ≤ c) → (hs.foldl (stepG ws m) (p, f)).2[i]? = match (plc p hs i).getLast? with
    | none => f[i]?
    | some q => f[i]?.map fun _ => low (ws.getD i 0 * m + q) m
  | [], p, f, _ => rfl
  | g :: hs, p, f, h => by
    have ih := pt_get ws m i hs (p + 1) (g.foldl (putC ws m p) f) fun x hx => h x (List.mem_cons_of_mem _ hx)
    rw [List.foldl_cons]
    show (hs.foldl (stepG ws m) (p + 1, g.foldl (putC ws m p) f)).2[i]? = _
    rw [ih, putC_get ws m p i g f (h g (List.mem_cons_self ..))]
    show _ = match (if (i : Int) ∈ g then (p : Int) :: plc (p + 1) hs i else plc (p + 1) hs i).getLast? with
      | none => f[i]?
      | some q => f[i]?.map fun _ => low (ws.getD i 0 * m + q) m
    by_cases hg : (i : Int) ∈ g
    · rw [if_pos hg, if_pos hg, List.getLast?_cons]
      cases e : (plc (p + 1) hs (i : Int)).getLast? with
      | none => rfl
      | some q => cases f[i]? <;> rfl
    · rw [if_neg hg, if_neg hg]
theorem pointOf_in {r : List (Int × Int)} (h : AllD r) : AllD (pointOf (clsOf r)) ∧ clsOf (pointOf (clsOf r)) = clsOf r := by
  have hP := h.pos
  have W := wf_of h.val
  have few := W.ord.few4
  have gpos : 0 < (clsOf r).2.length := List.length_pos_iff.mpr W.ord.ne
  have l1 : (clsOf r).1.length = r.length := cls_len r
  have hpt := ptL_in h (D := (clsOf r).2.length) (Ts := rgI 1 (clsOf r).2.length) (by rw [rgI_len]; omega) (by
    unfold rgI
    rw [List.pairwise_map]
    exact List.pairwise_lt_range.imp fun h => by omega) (fun t ht => by have := rgI_mem ht; omega) (by omega) (by omega)
  have e : pointOf (clsOf r) = ptL (clsOf r).2 (clsOf r).2.length (0 :: rgI 1 (clsOf r).2.length) 0 (clsOf r).1 := by
    refine List.ext_getElem? fun i => ?_
    rw [ptL_get, Nat.zero_add]
    unfold pointOf ptAt
    rw [pt_get _ _ i _ 0 _ fun g hg c hc => ((W.ord.lot g hg).1 c hc).1]
    by_cases hi : i < r.length
    · have hq := List.getElem?_eq_getElem hi
      have hpl := place_levs hP hq
      have hw : (clsOf r).1[i]? = some ((clsOf r).1[i]'(by omega)) := List.getElem?_eq_getElem (by omega)
      have hp0 := plc_mem 0 (clsOf r).2 i _ (by rw [hpl]; exact List.mem_cons_self ..)
      unfold place
      rw [hpl, hw]
      generalize (((levs (r.map (keyQ r))).idxOf (keyQ r r[i]) : Nat)) = p0 at hp0
      have hf : (List.replicate (clsOf r).1.length ((0 : Int), (1 : Int)))[i]? = some (0, 1) := by
        rw [List.getElem?_replicate, if_pos (by omega)]
      show Option.map _ ((List.replicate (clsOf r).1.length ((0 : Int), (1 : Int)))[i]?) = some _
      rw [hf]
      have hx : (0 :: rgI 1 (clsOf r).2.length).getD p0 0 = (p0 : Int) := by
        cases p0 with
        | zero => rfl
        | succ n =>
          show (rgI 1 (clsOf r).2.length).getD n 0 = ((n + 1 : Nat) : Int)
          unfold rgI
          rw [List.getD_eq_getElem?_getD, List.getElem?_map, List.getElem?_range (by omega)]
          show 1 + (n : Int) = ((n + 1 : Nat) : Int)
          omega
      rw [List.getD_eq_getElem?_getD, hw]
      show some (low ((clsOf r).1[i] * (clsOf r).2.length + (p0 : Int)) (clsOf r).2.length) = some (low ((clsOf r).1[i] * (clsOf r).2.length + (0 :: rgI 1 (clsOf r).2.length).getD ((p0 : Int)).toNat 0) (clsOf r).2.length)
      rw [Int.toNat_natCast, hx]
    · have hw : (clsOf r).1[i]? = none := List.getElem?_eq_none (by omega)
      have hf : (List.replicate (clsOf r).1.length ((0 : Int), (1 : Int)))[i]? = none := List.getElem?_eq_none (by rw [List.length_replicate]; omega)
      rw [hw, hf]
      cases (plc 0 (clsOf r).2 (i : Int)).getLast? <;> rfl
  rw [e]
  exact hpt
end K9

namespace K9
open PySem PySem.Spec PyProof.Rows L2 KD
/-! ### plain facts that the walks need -/
theorem backF_twice (g : List Int) : ∀ (n : Nat) (l : List (Int × Int)), backF n (backF n l g) g = backF n l g
  | _, [] => rfl
  | n, x :: r => by
    show (if (n : Int) ∈ g then (0, 1) else (if (n : Int) ∈ g then (0, 1) else x)) :: backF (n + 1) (backF (n + 1) r g) g = (if (n : Int) ∈ g then (0, 1) else x) :: backF (n + 1) r g
    rw [backF_twice g (n + 1) r]
    by_cases h : (n : Int) ∈ g <;> simp [h]
theorem backF_nil : ∀ (n : Nat) (l : List (Int × Int)), backF n l [] = l
  | _, [] => rfl
  | n, x :: r => by
    show (if (n : Int) ∈ [] then (0, 1) else x) :: backF (n + 1) r [] = x :: r
    rw [backF_nil (n + 1) r]
    simp
theorem put_twice {r : List (Int × Int)} (h : AllD r) {lot : List Int} (hl : Lot r.length lot) : putOf (putOf (clsOf r) lot) lot = putOf (clsOf r) lot := by
  obtain ⟨a, b⟩ := back_in h hl
  obtain ⟨c, d⟩ := back_in a (lot := lot) (by rw [backF_len]; exact hl)
  rw [backF_twice, b] at d
  exact d.symm
theorem lot_nil (n : Int) : Lot n [] := ⟨fun _ h => (nomatch h), .nil, Nat.zero_le _⟩
theorem put_nil {r : List (Int × Int)} (h : AllD r) : putOf (clsOf r) [] = clsOf r := by
  obtain ⟨a, b⟩ := back_in h (lot_nil r.length)
  rw [backF_nil] at b
  exact b.symm
theorem lot_all (n : Nat) (hn : n ≤ 3) : Lot n (rgI 0 n) := ⟨fun x hx => by have := rgI_mem hx; omega, by
  unfold rgI
  rw [List.pairwise_map]
  exact List.pairwise_lt_range.imp fun h => by omega, by rw [rgI_len]; omega⟩
theorem put_all {r : List (Int × Int)} (h : AllD r) : putOf (clsOf r) (rgI 0 r.length) = (List.replicate r.length 0, [rgI 0 r.length]) := by
  obtain ⟨a, b⟩ := back_in h (lot_all r.length h.l3)
  have e : backF 0 r (rgI 0 r.length) = List.replicate r.length (0, 1) := by
    have h2 : ∀ (m n : Nat) (l : List (Int × Int)), n + l.length ≤ m → backF n l (rgI 0 m) = List.replicate l.length (0, 1) := by
      intro m n l
      induction l generalizing n with
      | nil => intro _; rfl
      | cons x t ih =>
        intro hh
        rw [List.length_cons] at hh
        have hm : (n : Int) ∈ rgI 0 m := by
          unfold rgI
          exact List.mem_map.mpr ⟨n, List.mem_range.mpr (by omega), by omega⟩
        show (if (n : Int) ∈ rgI 0 m then (0, 1) else x) :: backF (n + 1) t (rgI 0 m) = (0, 1) :: List.replicate t.length (0, 1)
        rw [if_pos hm, ih (n + 1) (by omega)]
    exact h2 r.length 0 r (by omega)
  rw [e] at b
  rw [← b]
  have l1 := h.l1
  have l3 := h.l3
  generalize r.length = n at l1 l3
  have hn : n = 1 ∨ n = 2 ∨ n = 3 := by omega
  rcases hn with rfl | rfl | rfl <;> decide +kernel
end K9

namespace KD
open PySem PySem.Spec PyProof.Rows L2
/-! ### a tuple times one -/
theorem tuple_mul1 (l : Addr) (items : Array Value) (n : Nat) (dd : Option Addr) (sl : Array (Option Value)) (u : Tok) :
    Meets (Builtin.«tuple.__mul__» ⟨[.ref l, .int 1 u], []⟩) (fun _ R s => s.heap.get? l = some { cls := .type "tuple", dict := dd, data := .seq items n, slots := sl } ∧ R (.ok (.ret (Value.ref l))) s) :=
  .of_wp fun prog w A R s h => by
    obtain ⟨heap0, gens0, drawn0, toks0, os0⟩ := s
    obtain ⟨at0, h⟩ := h
    have f1 := AutoSeq1.idx_int
    have inR : (decide ((1 : Int) < -(2 ^ 63)) || decide ((1 : Int) ≥ 2 ^ 63)) = false := by decide
    have isOne : (items.isEmpty || (1 : Int) == 1) = true := by simp
    wp_walk using wpAny_loadPart' at0
    repeat (first
      | (refine wpAny_ite_false (decide_eq_false (by rw [inR]; exact Bool.false_ne_true)) ?_; wp_walk using wpAny_loadPart' at0)
      | (refine wpAny_ite_true (decide_eq_true (by rw [isOne])) ?_; wp_walk using wpAny_loadPart' at0))
    exact ⟨_, rfl, h⟩
section
variable {X : Cx}
open Evl (Ex sq_of st_of fresh_back ex_l ex_t)
theorem op_rep1 : OpR X (binaryOp .Mult) (fun x y H Q => ∃ l xs, x = .ref l ∧ y = .int 1 ∧ SqT X.K H l xs ∧ Q (.ref l) H) := by
  intro pins s σ H x y v u Q I rx ry h
  obtain ⟨l, xs, rfl, rfl, hT, q⟩ := h
  cases rx
  obtain ⟨t, rfl⟩ := ry
  obtain ⟨its, rel, ⟨⟨cl0, dd, dt0, sl⟩, ho, ecl, n, edt⟩, _⟩ := I.tuple hT
  simp only at ecl edt
  subst ecl edt
  refine wpAny_binaryOp_repeat_ref (T := "tuple") (U := "int") (by decide) ⟨_, ho, rfl⟩ (fun s' => typeIs_int s' 1 t) noFill_tuple_mul F.fills_int_mul F.slot_int_rmul repeat_tuple F.slot_int_index.lookup
    (call_meets F.slot_int_rmul (typeIs_int s 1 t) F.entry_int_rmul (F.args_int_rmul_2 _ _) (int_rmul_tuple 1 t l its.toArray n dd sl)
      ⟨ho, rfl, ⟨_, ho, rfl⟩, call_meets F.slot_tuple_mul ⟨_, ho, rfl⟩ F.entry_tuple_mul (F.args_tuple_mul_2 _ _) (tuple_mul1 l its.toArray n dd sl t) ⟨ho, ?_⟩⟩)
  exact ⟨.ref l, H, I, rfl, q⟩
theorem dpa_repT {K : PySem.W.Frag} {H : Hp} {v : V} {d : PyData} (h : Dp K H v d) : ∀ n : Nat, DpAll K H (List.replicate n [v]).flatten (List.replicate n d)
  | 0 => .nil
  | n + 1 => .cons h (dpa_repT h n)
theorem od_repT {n : Nat} {d : PyData} (h1 : 1 ≤ n) (h2 : n ≤ 3) : OD X (binaryOp .Mult) (.tuple [d]) (.int n) (.tuple (List.replicate n d)) := by
  by_cases h : n = 1
  · subst h
    refine ⟨_, op_rep1, fun x y H dx dy Q k => ?_⟩
    cases dy
    obtain ⟨r, xs, rfl, hx, hxs⟩ := dp_tup dx
    exact ⟨r, xs, rfl, rfl, hx, k _ H (Ex.refl H) (.tup hx hxs)⟩
  · refine ⟨_, op_repT, fun x y H dx dy Q k => ?_⟩
    cases dy
    obtain ⟨r, xs, rfl, hx, hxs⟩ := dp_tup dx
    obtain ⟨v, rfl, dv⟩ := dpa1 hxs
    exact ⟨r, n, [v], rfl, rfl, hx, List.cons_ne_nil _ _, by omega, by omega, Nat.le_of_ble_eq_true rfl, fun p hp => k _ _ (Ex.new hp) (.tup (st_of upd_same) (by rw [Int.toNat_natCast]; exact dpa_repT ((Ex.new hp).dp dv) n))⟩
end
section
variable {X : Cx} {N : List Str} {sc : Scope} {k : Nat} {σ : L2.St} {H : Hp} {e a b c tg : Expr} {es : List Expr} {d d1 d2 : PyData} {ds : List PyData} {x y : Str} {pos p py : Pos} {T : List (Addr × Str)} {En : Ends}
open Evl (Ex sq_of st_of fresh_back ex_l ex_t)
theorem run.mono {Q Q' : VK} (h : run X e σ H Q) (i : ∀ v H, Q v H → Q' v H) : run X e σ H Q' := ⟨fun pins s I => thn (h.go pins s I) fun u s1 ⟨v, H1, I1, r, q⟩ => ⟨v, H1, I1, r, i v H1 q⟩⟩
theorem runA.mono {Q Q' : List V → Hp → Prop} (h : runA X es σ H Q) (i : ∀ v H, Q v H → Q' v H) : runA X es σ H Q' := ⟨fun ps pins s I => thn (h.go ps pins s I) fun u s1 ⟨v, H1, I1, r, q⟩ => ⟨v, H1, I1, r, i v H1 q⟩⟩
theorem rt_cmp {op : CmpOp} {t : Bool} {Q : Bool → Hp → Prop} (o : OD X (compareOp op) d1 d2 (.bool t)) (h : run X a σ H fun x H1 => run X b σ H1 fun y H2 => Dp X.K H2 x d1 ∧ Dp X.K H2 y d2 ∧ ∀ H3, Ex H2 H3 → Q t H3) (hm : behindInMarks op b = false := by rfl) : runT X (.Compare a [op] [b] pos) σ H Q := by
  obtain ⟨r, ho, hr⟩ := o
  exact of_pt (pt_cmpR ho (pe_run a) (pe_run b) hm) (h.mono fun x H1 h => h.mono fun y H2 ⟨dx, dy, h⟩ => hr x y H2 dx dy _ fun v H4 q4 dv => ⟨t, dp_bl dv, h H4 q4⟩)
/-- x(..), its arguments read -/
theorem rn_callR [C : Cn X N sc k] {j : Nat} {F : List PyData → PyData → Prop} {Q : VK} (c : C8.Cal X.prog X.w X.K X.mg X.base j x (spD X.K F) []) (ha : runA X (e :: es) σ H fun vs H1 => ∃ ds d, DpAll X.K H1 vs ds ∧ F ds d ∧ ∀ v H2, Ex H1 H2 → Dp X.K H2 v d → Q v H2) (hk : j ≤ k := by decide) (hs : glB sc x = true := by decide +kernel)
    (he : starEach (e :: es) X.env = (false, eval e X.env) :: starEach es X.env := by rfl) (hpl : (backTo pos (starEach es X.env)).any (·.1) = false := by rfl) : run X (.Call (.Name x p) (e :: es) [] pos) σ H Q :=
  of_pe (C8.pe_c c C.room hk (C.gl x (glB_of hs).1) (pa_run _) (glB_of hs).2.1 he hpl) (ha.mono fun vs H1 ⟨ds, d, h1, h2, h3⟩ => by
    show spD X.K F (vs ++ []) H1 Q _
    rw [List.append_nil]
    exact ⟨ds, d, h1, h2, h3⟩)
end
end KD

namespace K9
open PySem PySem.Spec PyProof.Rows L2 KD
open Evl (Ex sq_of st_of fresh_back ex_l ex_t)
/-! ### ways -/
theorem clsD_inj {a b : Cls} (h : clsD a = clsD b) : a = b := by
  have injI : ∀ (a b : List Int), a.map PyData.int = b.map PyData.int → a = b := by
    intro a
    induction a with
    | nil =>
      intro b h
      cases b with
      | nil => rfl
      | cons x r => cases h
    | cons y t ih =>
      intro b h
      cases b with
      | nil => cases h
      | cons x r =>
        rw [List.map_cons, List.map_cons] at h
        injection h with h1 h2
        injection h1 with h1
        rw [h1, ih r h2]
  have injG : ∀ (a b : List (List Int)), a.map igs = b.map igs → a = b := by
    intro a
    induction a with
    | nil =>
      intro b h
      cases b with
      | nil => rfl
      | cons x r => cases h
    | cons y t ih =>
      intro b h
      cases b with
      | nil => cases h
      | cons x r =>
        rw [List.map_cons, List.map_cons] at h
        injection h with h1 h2
        injection h1 with h1
        rw [injI _ _ h1, ih r h2]
  obtain ⟨a1, a2⟩ := a
  obtain ⟨b1, b2⟩ := b
  injection h with h
  injection h with h1 h
  injection h with h2 _
  injection h1 with h1
  injection h2 with h2
  have e1 : a1 = b1 := injI _ _ h1
  have e2 : a2 = b2 := injG _ _ h2
  rw [e1, e2]
theorem filt_any {g : List Int} {p : Int → Bool} : decide (((g.filter p).map fun _ => (1 : Int)) = []) = !g.any p := by
  induction g with
  | nil => rfl
  | cons x r ih =>
    rw [List.filter_cons, List.any_cons]
    cases h : p x with
    | true => rfl
    | false => exact ih
theorem dp_opt {K : PySem.W.Frag} (c : Option Cls) : noL (optD c) = true := by
  cases c with
  | none => rfl
  | some c => exact noL_clsD c
section
variable {X : Cx} {N : List Str} {sc : Scope} {k : Nat} {σ : L2.St} {H : Hp} {e a b c : Expr} {sa sb : List Stmt} {pos : Pos} {En : Ends}
theorem runT.mono {Q Q' : Bool → Hp → Prop} (h : runT X e σ H Q) (i : ∀ v H, Q v H → Q' v H) : runT X e σ H Q' := ⟨fun pins s I => thn (h.go pins s I) fun u s1 ⟨H1, I1, q⟩ => ⟨H1, I1, i _ H1 q⟩⟩
theorem st_ifF (h : runT X c σ H fun t H1 => t = false ∧ runB X sb En σ H1) : runS X (.If c sa sb pos) En σ H := of_ps (ps_if (pt_run c) (pb_run sa) (pb_run sb)) (runT.mono h fun t H1 ⟨e, h⟩ => by
  subst e
  show runB X sb En σ H1
  exact h)
theorem rt_or2 {Q : Bool → Hp → Prop} (ha : ET X a σ H false) (hb : ∀ H1, Ex H H1 → runT X b σ H1 Q) : runT X (.BoolOp .Or [a, b] pos) σ H Q := of_pt (pw_or (pt_run a) (pw_or1 (pt_run b))).pt (ha.go fun H1 q1 => by
  show runT X b σ H1 Q
  exact hb H1 q1)
theorem rt_not {Q : Bool → Hp → Prop} (h : runT X a σ H fun t H1 => Q (!t) H1) : runT X (.UnaryOp .Not a pos) σ H Q := of_pt (pt_not (pt_run a)) h
theorem rt_val {Q : Bool → Hp → Prop} (h : run X e σ H fun v H1 => ∃ t, v = .bl t ∧ Q t H1) (he : ∀ whole, isTrue e X.env whole = (do let v ← whole; standAt e.pos; holding [v] (truthy v)) := by intro _; rfl) : runT X e σ H Q := of_pt (pt_val (pe_run e) he) h
end
section
variable {P : Program} {w : World} {K : PySem.W.Frag} {mg : Str → Option Value} {base : Heap} {f : Addr} {fd : FuncData} {T : List (Addr × Str)}
def PWays (ds : List PyData) : Prop := ∃ r : List (Int × Int), ds = [clsD (clsOf r), rds r] ∧ AllD r
def QTrue (_ : List PyData) (d : PyData) : Prop := d = .bool true
theorem ok_ways [B : Bl mg] (D : C8.Def K mg "_law_ways" (topS 54) f fd) (b : Binds K fd ["_law_dice_here", "_law_cls", "_law_readings"] []) (c1 : C8.Cal P w K mg base 1 "_law_roll" (spM T K PRoll QRoll) []) (c2 : C8.Cal P w K mg base 8 "next_class" (spD K FNextIn) []) (c3 : C8.Cal P w K mg base 3 "_law_to_next" (spD K FNext) [])
    (c4 : C8.Cal P w K mg base 4 "_law_cq_of" (spT T K FCq) []) (c5 : C8.Cal P w K mg base 3 "_law_fq_later" (spD K FLater) []) (c6 : C8.Cal P w K mg base 2 "_law_fq_times" (spD K FMul) []) (c7 : C8.Cal P w K mg base 1 "_law_fq_low" (spD K FLowest) []) (c8 : C8.Cal P w K mg base 8 "is_in" (spD K FIsIn) []) :
    C8.Cal P w K mg base 9 "_law_ways" (spM T K PWays QTrue) [] := by
  refine def_okG (N := ["_law_dice_here", "_law_cls", "_law_readings", "_law_told", "_law_wait", "_law_is_least", "_law_part", "_law_between", "_law_clock"]) D b (by decide +kernel) (fun vs H Q E h => spM_len (n := 2) (fun ds h => by obtain ⟨m, rfl, _⟩ := h; rfl) h) ?_
  rintro X rfl rfl rfl rfl rfl hXc hXq C H vs Q E hsp
  obtain ⟨r, rest, ds, rfl, hD, hT, hv, ⟨rs, rfl, hA⟩, q⟩ := hsp
  obtain ⟨v1, v2, rfl, d1, d2⟩ := dpa2 hv
  have W := wf_of hA.val
  have hl3 := hA.l3
  have ne := W.ord.ne
  have h0 : ((clsOf rs).2.map igs)[0]? = some (igs ((clsOf rs).2.headD [])) := by
    cases e : (clsOf rs).2 with
    | nil => exact absurd e ne
    | cons g r => rfl
  have hg0 : (clsOf rs).2.headD [] ∈ (clsOf rs).2 := by
    cases e : (clsOf rs).2 with
    | nil => exact absurd e ne
    | cons g r => exact List.mem_cons_self ..
  refine sb_cons (st_asg 3 (ed_call c2 (ea_cons (ed_var 1 rfl d1) ea_nil) ⟨_, rfl, W, rfl⟩) fun v3 H1 q1 d3 => ?_)
  refine sb_cons (st_if (t := hasFour (clsOf rs)) (ET.is (et_cmp (od_neD (sh_ils ((((clsOf rs).2.headD []).filter fun i => (clsOf rs).1.getD i.toNat 0 == 4).map fun _ => (1 : Int))) (by decide)) (EL.ed (EL.is (el_lc1 (own := [("_law_clock", 8)]) 8 (fun d => match d with | .int i => (clsOf rs).1.getD i.toNat 0 == 4 | _ => false) (fun _ => .int 1)
    (ei_tup (ds := ((clsOf rs).2.headD []).map PyData.int) (ed_ixT (ed_ixT (ds := [igs (clsOf rs).1, .tuple ((clsOf rs).2.map igs)]) (ed_var 1 rfl (q1.dp d1)) ed_int rfl) ed_int (atI_nat h0)) (noLs_igs _)) (fun d hd v H' q' dv => ?_) (fun d hd => rfl) (hz := ?_)) ?_)) (EL.ed (el_lst ea_nil))) ?_) (fun h4 H2 q2 => ?_) fun h4 H2 q2 => sb_nil ?_)
  · obtain ⟨i, hi, rfl⟩ := List.mem_map.mp hd
    obtain ⟨x, hx, hp⟩ := W.at hg0 hi
    have hx' : ((clsOf rs).1.map PyData.int)[i.toNat]? = some (.int x) := by rw [List.getElem?_map, hx]; rfl
    have ha := atI_nat hx'
    rw [show ((i.toNat : Nat) : Int) = i by omega] at ha
    refine ⟨bt_one fun s0 H0 A cl fp C' => ET.is (et_cmp od_eqI (ed_ixT (ds := (clsOf rs).1.map PyData.int) (ed_ixT (ds := [igs (clsOf rs).1, .tuple ((clsOf rs).2.map igs)]) (ed_var 1 rfl ((q1.trans q').dp d1)) ed_int rfl) (ed_var 8 rfl dv) ha) ed_int) ?_, fun _ s0 H0 A cl fp C' => ed_int⟩
    show decide (x = 4) = ((clsOf rs).1.getD i.toNat 0 == 4)
    rw [List.getD_eq_getElem?_getD, hx]
    rfl
  · rw [List.length_map]
    have := (W.ord.lot _ hg0).2.2
    omega
  · rw [List.filter_map, List.map_map, List.map_map]
    rfl
  · rw [eqv_nil, filt_any, Bool.not_not]
    rfl
  · -- a clock of the first group stands at four
    have hn := next_four h4
    rw [hn] at d3
    refine sb_one (st_ret (ED.is (ed_cmp od_isN (ed_var 3 rfl (q2.dp d3)) ed_non) rfl) fun v H3 q3 dv => q _ v H3 rfl (Mv.ex ((q1.trans q2).trans q3)) dv)
  · obtain ⟨c', hn, hw, hvl, hcl, hpart⟩ := next_some hA h4
    rw [hn] at d3
    have Q2 := q1.trans q2
    refine sb_cons (st_unp2 4 5 (ed_call c3 (ea_cons (ed_var 2 rfl (Q2.dp d2)) ea_nil) ⟨rs, rfl, hA.ok2, by omega, rfl⟩) fun v4 v5 H3 q3 d4 d5 => ?_)
    have Q3 := Q2.trans q3
    have okl : ∀ q ∈ laterF rs (waitW rs).1, Ok2 200 q := fun q hq => (hvl.1 q hq).1.ok.ok2
    have ll : ∀ u, (laterF rs u).length = rs.length := fun u => List.length_map ..
    have okr : ∀ q ∈ rs, Ok2 1000 q := fun q hq => (hA.ok2 q hq).mono (by decide)
    have W' : Wf c' := by rw [← hcl]; exact wf_of hvl
    have neN : PyData.eqv (optD (some c')) (clsD c') = true := eqv_cls c'
    have hD3 := hD.ex Q3
    have hT3 := hT.ext Q3
    refine sb_cons (st_ifF (rt_or2 (ET.is (et_cmp od_isN (ed_var 3 rfl ((q2.trans q3).dp d3)) ed_non) rfl) fun H4 q4 => rt_cmp (t := false) (d1 := optD (some c')) (d2 := clsD c') ?_ (rn_var 3 rfl (rn_callT c4 (ea_cons (ed_call c5 (ea_cons (ed_var 2 rfl ((Q3.trans q4).dp d2)) (ea_cons (ed_var 4 rfl (q4.dp d4)) ea_nil)) ⟨rs, _, rfl, okr, hw, by omega, rfl⟩) ea_nil) ⟨laterF rs (waitW rs).1, rfl, okl, Nat.le_trans (Nat.le_of_eq (ll _)) hA.l3, rfl⟩ (hT3.ext q4) fun v H5 e5 T5 d6 => ?_))))
    · have h := od_neD (X := X) (sh_cls c') (sh_cls c')
      rw [eqv_cls] at h
      exact h
    have t5 : ExT H3 H5 := q4.t.trans e5.t
    rw [hcl] at d6
    refine ⟨dp_exT (((q2.trans q3).t).trans t5) _ _ (dp_opt (K := X.K) (some c')) d3, d6, fun H6 q6 => ⟨rfl, sb_nil ?_⟩⟩
    have M6 : Mv T r H H6 := ((Mv.ex (Q3.trans q4)).trans (Mv.exN e5 T5)).trans (Mv.ex q6)
    have t6 : ExT H3 H6 := t5.trans q6.t
    have d16 := dp_exT (Q3.t.trans t6) _ _ (noL_clsD _) d1
    have d26 := dp_exT (Q3.t.trans t6) _ _ (noL_rds _) d2
    have d36 := dp_exT ((q2.trans q3).t.trans t6) _ _ (dp_opt (K := X.K) (some c')) d3
    have d46 := dp_exT t6 _ _ (noL_fr _) d4
    cases d5
    -- part
    refine sb_cons (st_asgR 6 (rn_callR c6 (ra_ed (ed_var 4 rfl d46) fun w1 H7 q7 e7 => ra1 (rn_callR c7 (ra_run (of_pe (pe_op op_add (pe_run _) (pe_run _)) (ed_int.go fun w2 H8 q8 e8 => rn_callM c1 0 rfl (M6.dice hD |>.ex (q7.trans q8)) ((M6.tab hT).ext (q7.trans q8)) (ea_cons ed_int ea_nil) ⟨9, rfl, by decide, by decide⟩ fun d v H9 hp m9 dv => ?_))))))) 
    obtain ⟨mm, i, e, rfl, hi0, hi1⟩ := hp
    injection e with e
    injection e with e
    subst e
    cases dv
    cases e8
    have hD8 : Dice H8 r := (M6.dice hD).ex (q7.trans q8)
    refine ⟨1, i, rfl, rfl, ra1 (ed_int.go fun w3 H10 q10 e10 => ?_)⟩
    cases e10
    refine ⟨_, fr (low (1 + i) 10), .cons (.int _) (.cons (.int _) .nil), ⟨1 + i, 10, rfl, by decide, by unfold Sm; decide, rfl⟩, fun v11 H11 q11 d11 => ?_⟩
    have t11 : ExT H7 H11 := (q8.t.trans (m9.t hD8)).trans (q10.trans q11).t
    obtain ⟨hp1, hp2, hp3⟩ := hpart (1 + i) (by omega) (by omega)
    have hlk : Ok2 1000 (low (1 + i) 10) := ok2_low (by omega) (by decide) (by unfold Sm; omega) (by unfold Sm; decide)
    refine ⟨_, fr (partQ rs (1 + i)), .cons (dp_exT t11 _ _ (noL_fr _) e7) (.cons d11 .nil), ⟨_, _, rfl, hw, hlk, rfl⟩, fun v12 H12 q12 d12 => ?_⟩
    have t12 : ExT H6 H12 := (q7.t.trans t11).trans q12.t
    have M12 : Mv T r H H12 := ((M6.trans (Mv.ex (q7.trans q8))).trans m9).trans (Mv.ex ((q10.trans q11).trans q12))
    have d112 := dp_exT t12 _ _ (noL_clsD _) d16
    have d212 := dp_exT t12 _ _ (noL_rds _) d26
    have d312 := dp_exT t12 _ _ (dp_opt (K := X.K) (some c')) d36
    have d412 := dp_exT t12 _ _ (noL_fr _) d46
    -- between
    refine sb_cons (st_asgR 7 (rn_callT c4 (ea_cons (ed_call c5 (ea_cons (ed_var 2 rfl d212) (ea_cons (ed_var 6 rfl d12) ea_nil)) ⟨rs, _, rfl, okr, hp1, by omega, rfl⟩) ea_nil) ⟨laterF rs (partQ rs (1 + i)), rfl, hp2, Nat.le_trans (Nat.le_of_eq (ll _)) hA.l3, rfl⟩ (M12.tab hT) fun v13 H13 e13 T13 d13 => ?_))
    have t13 := e13.t
    have M13 := M12.trans (Mv.exN e13 T13)
    have d113 := dp_exT t13 _ _ (noL_clsD _) d112
    have d213 := dp_exT t13 _ _ (noL_rds _) d212
    have d313 := dp_exT t13 _ _ (dp_opt (K := X.K) (some c')) d312
    have d413 := dp_exT t13 _ _ (noL_fr _) d412
    rw [hp3] at d13
    refine sb_one (st_ret (ED.is (ed_and (t := true) (u := true) (ED.is (ed_cmp (od_eqD (sh_cls _) (sh_cls _)) (ed_var 7 rfl d13) (ed_if (t := (waitW rs).2) (d := clsD (if (waitW rs).2 = true then clsOf rs else c')) (et_val (ed_var 5 rfl (.bl _))) (fun h => ED.is (ed_var 1 rfl d113) (by rw [if_pos h])) fun h => ED.is (ed_var 3 rfl d313) (by rw [if_neg (by rw [h]; exact Bool.false_ne_true)]; rfl))) (by rw [eqv_cls])) fun _ => ed_and1 (ed_call c8 (ea_cons (ed_var 3 rfl d313) (ea_cons (ed_call c5 (ea_cons (ed_var 2 rfl d213) (ea_cons (ed_var 4 rfl d413) ea_nil)) ⟨rs, _, rfl, okr, hw, by omega, rfl⟩) ea_nil)) ⟨c', laterF rs (waitW rs).1, rfl, W', hvl, by rw [← hcl, cls_len], hcl, rfl⟩)) rfl) fun v14 H14 q14 dv => q _ v14 H14 rfl (M13.trans (Mv.ex q14)) dv)
end
end K9

namespace K9
open PySem PySem.Spec PyProof.Rows L2 KD
open Evl (Ex sq_of st_of fresh_back ex_l ex_t)
/-! ### right -/
section
variable {X : Cx} {N : List Str} {sc : Scope} {k : Nat} {σ : L2.St} {H : Hp} {e a b c cnd : Expr} {sa sb body : List Stmt} {x : Str} {pos p py : Pos} {En : Ends} {T : List (Addr × Str)}
/-- for tg in (a display, its items drawn) -/
theorem st_forT [C : Cn X N sc k] {tg : Expr} (h : run X e σ H fun v H1 => ∃ ds, Dp X.K H1 v (.tuple ds) ∧ noLs ds = true ∧ ∃ Pv : Nat → L2.St → Hp → Prop, Pv 0 σ H1 ∧ (∀ i σ' H', Pv i σ' H' → ExT H1 H') ∧
      (∀ i d v σ' H', ds[i]? = some d → Pv i σ' H' → Dp X.K H' v d → runG X tg v σ' H' fun σ2 H3 => runB X body { En with nx := Pv (i + 1), ct := Pv (i + 1), bk := En.nx } σ2 H3) ∧ ∀ σ' H', Pv ds.length σ' H' → En.nx σ' H')
    (hs : ∀ x, foldedSetIterable e X.env x = pure x := by intro _; rfl) : runS X (.For tg e body [] pos) En σ H :=
  of_ps (ps_for C.own C.calm (pi_tup (pe_run e)) (pg_run tg) (pb_run body) hs) (h.mono fun v H2 ⟨ds, dv, hn, Pv, h0, hS, ht, hd⟩ => by
    obtain ⟨r, xs, rfl, hx, hxs⟩ := dp_tup dv
    refine ⟨r, rfl, ⟨xs, hx⟩, fun i m σ' H' => i + m = ds.length ∧ Pv i σ' H', ⟨ds.length, Nat.zero_add _, h0⟩, fun i m σ' H' hW => ?_⟩
    obtain ⟨em, hP⟩ := hW
    have g := hS i σ' H' hP
    by_cases hi : i < ds.length
    · have hdi := List.getElem?_eq_getElem hi
      obtain ⟨u, hu, du⟩ := dpa_at hxs hdi
      refine .inr ⟨⟨xs, u, sqt_exT g hx, hu⟩, Pv (i + 1), fun σ2 H3 h => ⟨m - 1, by omega, by omega, h⟩, fun v H'' hy => ?_⟩
      obtain ⟨rfl, hv⟩ := hy
      have e1 := (hv xs (sqt_exT g hx)).symm.trans hu
      cases e1
      exact ht i _ _ σ' _ hdi hP (dp_exT g _ _ (noLs_get hn hdi) du)
    · have ei : i = ds.length := by omega
      subst ei
      exact .inl ⟨⟨xs, sqt_exT g hx, by rw [dpa_len hxs]; exact Nat.le_refl _⟩, hd σ' H' hP⟩)
/-- [x for x in range(n) if a draw says so] -/
theorem rn_lot [C : Cn X N sc k] {iter : Expr} {scope : Scope} {own : List (Str × Nat)} {r : Addr} {n : Nat} {Q : VK} (i : Nat) (src : EI X (.Name x p) iter σ H (fun _ _ => True) (rgD 0 n)) (hn : n ≤ 3) (hD : Dice H r)
    (hc : ∀ (s0 : Shared) (H0 : Hp) (A : Addr) (cl : List (Str × Addr)) (fp : List Addr), Cn (X.blk s0 H0 scope (compEnvC scope cl A X.env) fp) N scope k → ∀ (j : Int) (H' : Hp), Mv T r H H' → ∀ Q' : Bool → Hp → Prop, (∀ t H2, Mv T r H' H2 → Q' t H2) → runT (X.blk s0 H0 scope (compEnvC scope cl A X.env) fp) cnd ((wipe σ (own.map (·.2))).set i (some (.int j))) H' Q')
    (kq : ∀ (lot : List Int) (p : Addr) (H2 : Hp), Lot n lot → Mv T r H H2 → H2 p = some (.lst (lot.map V.int)) → Q (.ref p) H2)
    (hg : ∀ v, ((wipe σ (own.map (·.2))).set i (some v))[i]? = some (some v) := by intro _; rfl)
    (hN : N[i]? = some x := by rfl) (hb : blkC N sc scope own = true := by decide +kernel) (hk : scope.kind = .function := by rfl) (hl : locB scope x = true := by decide +kernel) (hvis : visB scope x = true := by decide +kernel)
    (hwp : ∀ v, wipe ((wipe σ (own.map (·.2))).set i (some v)) (own.map (·.2)) = wipe σ (own.map (·.2)) := by intro _; rfl) (hs : ∀ y, foldedSetIterable iter X.env y = pure y := by intro _; rfl) : run X (.ListComp (.Name x py) [⟨.Name x p, iter, [cnd], 0⟩] scope pos) σ H Q :=
  of_pe (pe_lc (te := bTE X scope (.Name x py)) (tt := bTT X scope [cnd])
    C.calm C.nd' (pi_run (.Name x p) iter) (C.blkOk hb) (fun s0 H0 A cl fp => pg_name (C.blk s0 H0 scope cl A fp hk).nd' ((C.blk s0 H0 scope cl A fp hk).at_ hN) ((C.blk s0 H0 scope cl A fp hk).loc x (locB_of hl)).1 ((C.blk s0 H0 scope cl A fp hk).loc x (locB_of hl)).2)
    (fun s0 H0 A cl fp => ⟨fun pins s _ _ _ I h => (h s0 H0 A cl fp).go pins s I⟩) (fun s0 H0 A cl fp => ⟨fun pins s _ _ _ I h => (h s0 H0 A cl fp).go pins s I⟩) hs)
    (src H (Ex.refl H) _ fun J H2 q2 W D hDn => by
      have ntD : NT H D := nt_none (fresh_back q2 hDn)
      have M0 : Mv T r H (upd H2 D (.lst [])) := (Mv.ex q2).trans (Mv.ex (Evl.Ex.new hDn))
      refine ⟨fun ii m H' => ii + m = (rgD 0 n).length ∧ Mv T r H H' ∧ ∃ lot : List Int, H' D = some (.lst (lot.map V.int)) ∧ (∀ c ∈ lot, 0 ≤ c ∧ c < ii) ∧ lot.Pairwise (· < ·) ∧ lot.length ≤ ii, ⟨_, Nat.zero_add _, M0, [], upd_same, (fun _ h => (nomatch h)), List.Pairwise.nil, Nat.le_refl _⟩, fun ii m H' hW => ?_⟩
      obtain ⟨em, M, lot, hl', hr, hp, hln⟩ := hW
      rw [rgD_len] at em
      by_cases hi : ii < (rgD 0 n).length
      · have hi' := hi
        rw [rgD_len] at hi'
        refine .inr ⟨W.1 ii H' hi trivial, fun H'' => Mv T r H H'' ∧ ∃ lot : List Int, H'' D = some (.lst (lot.map V.int)) ∧ (∀ c ∈ lot, 0 ≤ c ∧ c < ((ii + 1 : Nat) : Int)) ∧ lot.Pairwise (· < ·) ∧ lot.length ≤ ii + 1, fun H'' h => ⟨m - 1, by omega, by rw [rgD_len]; omega, h⟩, fun v H'' hy => ?_⟩
        obtain ⟨q3, dv⟩ := W.2.2 ii H' v H'' _ (List.getElem?_eq_getElem hi) trivial hy
        obtain ⟨ev, _⟩ := rgD_get (List.getElem?_eq_getElem hi)
        rw [ev] at dv
        cases dv
        rw [Int.zero_add]
        have M3 := M.trans (Mv.ex q3)
        show gName i (.int (ii : Int)) (wipe σ (own.map (·.2))) H'' _
        refine (show _ from ⟨hwp _, fun s0 H0 A cl fp => ?_⟩)
        have ht := hc s0 H0 A cl fp (C.blk s0 H0 scope cl A fp hk) (ii : Int) H'' M3
        refine ⟨fun pins s I => (pts_one (pt_run cnd)).run pins s _ H'' _ I (ht _ fun t H3 m3 => ?_)⟩
        have M4 := M3.trans m3
        have nr : D ≠ r := nt_dice ntD hD
        have hl3 : H3 D = some (.lst (lot.map V.int)) := m3.keep D _ nr (q3 D _ hl') fun ps z => by cases z
        cases t with
        | true =>
          show bTE X scope (.Name x py) _ H3 _
          intro s0 H0 A cl fp
          have C' := C.blk s0 H0 scope cl A fp hk
          refine rn_var (C := C') i (hg _) ⟨lot.map V.int, hl3, Evl.sz_lt (by rw [List.length_map]; omega), mv_mut M4 hD ntD hl3, lot ++ [(ii : Int)], by rw [upd_same, List.map_append]; rfl, fun c hc => ?_, ?_, by rw [List.length_append]; simp only [List.length_cons, List.length_nil]; omega⟩ hN hvis
          · rcases List.mem_append.mp hc with hc | hc
            · have := hr c hc
              omega
            · rw [List.mem_singleton.mp hc]
              omega
          · rw [List.pairwise_append]
            refine ⟨hp, List.pairwise_singleton _ _, fun a ha b hb => ?_⟩
            rw [List.mem_singleton.mp hb]
            exact (hr a ha).2
        | false =>
          exact ⟨M4, lot, hl3, fun c hc => by have := hr c hc; omega, hp, by omega⟩
      · have ei : ii = n := by
          rw [rgD_len] at hi
          omega
        subst ei
        exact .inl ⟨by have h := W.2.1 H' trivial; rw [rgD_len] at h; simpa using h, kq lot D H' ⟨fun c hc => by have := hr c hc; omega, hp, by omega⟩ M hl'⟩)
end
end K9

namespace K9
open PySem PySem.Spec PyProof.Rows L2 KD
open Evl (Ex sq_of st_of fresh_back ex_l ex_t)
theorem rt_eqI {X : Cx} {σ : L2.St} {H : Hp} {a b : Expr} {pos : Pos} {Q : Bool → Hp → Prop} (h : run X a σ H fun x H1 => run X b σ H1 fun y H2 => ∃ i j : Int, x = .int i ∧ y = .int j ∧ ∀ t, Q t H2) (hm : behindInMarks .Eq b = false := by rfl) : runT X (.Compare a [.Eq] [b] pos) σ H Q :=
  of_pt (pt_cmpR op_eq (pe_run a) (pe_run b) hm) (h.mono fun x H1 h => h.mono fun y H2 ⟨i, j, e1, e2, hq⟩ => by
    subst e1
    subst e2
    exact ⟨rfl, _, rfl, hq _⟩)
section
variable {P : Program} {w : World} {K : PySem.W.Frag} {mg : Str → Option Value} {base : Heap} {f : Addr} {fd : FuncData} {T : List (Addr × Str)}
theorem neC (X : Cx) {N : List Str} {sc : Scope} {k : Nat} [C : Cn X N sc k] (c : Cls) : OD X (compareOp .NotEq) (clsD c) (clsD c) (.bool false) := by
  have h := od_neD (X := X) (sh_cls c) (sh_cls c)
  rw [eqv_cls] at h
  exact h
theorem ok_right [B : Bl mg] (D : C8.Def K mg "_law_right" (topS 56) f fd) (b : Binds K fd ["_law_dice_here"] []) (c1 : C8.Cal P w K mg base 1 "_law_roll" (spM T K PRoll QRoll) []) (c2 : C8.Cal P w K mg base 3 "_law_cq_drawn" (spM T K PDrawn QDrawn) []) (c3 : C8.Cal P w K mg base 4 "_law_cq_of" (spT T K FCq) [])
    (c4 : C8.Cal P w K mg base 3 "_law_cq_point" (spM T K PPoint QPoint) []) (c5 : C8.Cal P w K mg base 8 "told_point" (spD K FPoint) []) (c6 : C8.Cal P w K mg base 8 "class_of" (spD K FClsOf) []) (c7 : C8.Cal P w K mg base 9 "_law_ways" (spM T K PWays QTrue) []) (c8 : C8.Cal P w K mg base 8 "put_back" (spD K FPut) []) (c9 : C8.Cal P w K mg base 1 "_law_back" (spD K FBack) []) :
    C8.Cal P w K mg base 10 "_law_right" (spM T K (fun ds => ds = []) QTrue) [] := by
  refine def_okG (N := ["_law_dice_here", "_law_clocks", "_law_readings", "_law_cls", "_law_some", "_law_turn", "_law_lot", "_law_told", "_law_clock"]) D b (by decide +kernel) (fun vs H Q E h => spM_len (n := 0) (fun ds h => by rw [h]; rfl) h) ?_
  rintro X rfl rfl rfl rfl rfl hXc hXq C H vs Q E hsp
  obtain ⟨r, rest, ds, rfl, hD, hT, hv, rfl, q⟩ := hsp
  cases hv
  refine sb_cons (st_asgR 1 (of_pe (pe_op op_add (pe_run _) (pe_run _)) (ed_int.go fun x H1 q1 dx => rn_callM c1 0 rfl (hD.ex q1) (hT.ext q1) (ea_cons ed_int ea_nil) ⟨3, rfl, by decide, by decide⟩ fun d v H2 hp m2 dv => ?_)))
  obtain ⟨mm, i, e, rfl, hi0, hi1⟩ := hp
  injection e with e
  injection e with e
  subst e
  cases dv
  cases dx
  refine ⟨1, i, rfl, rfl, ?_⟩
  obtain ⟨n, hn⟩ : ∃ n : Nat, 1 + i = n := ⟨(1 + i).toNat, by omega⟩
  change runB X _ _ [some (.ref r), some (.int (1 + i)), none, none, none, none, none, none, none] H2
  rw [hn]
  have n1 : 1 ≤ n := by omega
  have n3 : n ≤ 3 := by omega
  have M2 : Mv T r H H2 := (Mv.ex q1).trans m2
  refine sb_cons (st_asgR 2 (rn_callM c2 0 rfl (M2.dice hD) (M2.tab hT) (ea_cons (ed_var 1 rfl (.int (n : Int))) ea_nil) ⟨n, rfl, n3⟩ fun d v2 H3 hp m3 d2 => ?_))
  obtain ⟨n', rs, e, hl, hdr, rfl⟩ := hp
  have hA : AllD rs := by
    injection e with e
    injection e with e
    have : n' = n := by omega
    exact ⟨hdr, by omega, by omega⟩
  have hln : rs.length = n := by
    injection e with e
    injection e with e
    omega
  have M3 := M2.trans m3
  refine sb_cons (st_asgR 3 (rn_callT c3 (ea_cons (ed_var 2 rfl d2) ea_nil) ⟨rs, rfl, hA.ok2, hA.l3, rfl⟩ (M3.tab hT) fun v3 H4 e4 T4 d3 => ?_))
  have M4 := M3.trans (Mv.exN e4 T4)
  have d24 := dp_exT e4.t _ _ (noL_rds _) d2
  have W := wf_of hA.val
  have hcl : (clsOf rs).1.length = rs.length := cls_len rs
  have point : ∀ {c : Cls} {Dd : Int} {Ts : List Int}, [clsD (clsOf rs)] = [clsD c] → Ts.length + 1 = c.2.length → Ts.Pairwise (· < ·) → (∀ t ∈ Ts, 0 < t ∧ t < Dd) → 0 < Dd → Dd ≤ 100 → AllD (ptL c.2 Dd (0 :: Ts) 0 c.1) ∧ clsOf (ptL c.2 Dd (0 :: Ts) 0 c.1) = clsOf rs := by
    intro c Dd Ts e h1 h2 h3 h4 h5
    injection e with e
    have e := clsD_inj e
    subst e
    exact ptL_in hA h1 h2 h3 h4 h5
  -- the three readings
  refine sb_cons (st_forT (rn_tup (ra_ed (ed_var 2 rfl d24) fun u1 H5 q5 e1 => ra_run (rn_callM c4 0 rfl ((M4.dice hD).ex q5) ((M4.tab hT).ext q5) (ea_cons (ed_var 3 rfl (q5.dp d3)) ea_nil) ⟨_, rfl, W⟩ fun d u2 H6 hp m6 e2 => ?_))))
  obtain ⟨cc, Dd, Ts, ee, p1, p2, p3, p4, p5, rfl⟩ := hp
  obtain ⟨hA1, hc1⟩ := point ee p1 p2 p3 p4 p5
  generalize ptL cc.2 Dd (0 :: Ts) 0 cc.1 = r1 at hA1 hc1 e2
  have hD5 := (M4.dice hD).ex q5
  have t6 := m6.t hD5
  obtain ⟨hA2, hc2⟩ := pointOf_in hA
  refine ra1 ((ed_call c5 (ea_cons (ed_var 3 rfl (dp_exT t6 _ _ (noL_clsD _) (q5.dp d3))) ea_nil) ⟨_, rfl, W, rfl⟩).go fun u3 H7 q7 e3 => ⟨Nat.le_of_ble_eq_true rfl, fun pt hpt => ?_⟩)
  generalize pointOf (clsOf rs) = r2 at hA2 hc2 e3
  have q8 : Ex H7 (upd H7 pt (.tup [u1, u2, u3])) := Evl.Ex.new hpt
  have h8 : (upd H7 pt (.tup [u1, u2, u3])) pt = some (.tup [u1, u2, u3]) := upd_same
  generalize upd H7 pt (.tup [u1, u2, u3]) = H8 at q8 h8
  have M8 : Mv T r H H8 := ((M4.trans (Mv.ex q5)).trans m6).trans (Mv.ex (q7.trans q8))
  have t8 : ExT H5 H8 := t6.trans (q7.trans q8).t
  have d28 := dp_exT (q5.t.trans t8) _ _ (noL_rds _) d24
  have d38 := dp_exT (q5.t.trans t8) _ _ (noL_clsD _) d3
  have hD8 := M8.dice hD
  have hT8 := M8.tab hT
  refine ⟨[rds rs, rds r1, rds r2], .tup (st_of h8) (.cons (dp_exT t8 _ _ (noL_rds _) e1) (.cons ((q7.trans q8).dp e2) (.cons (q8.dp e3) .nil))), by
    show (noL (rds rs) && (noL (rds r1) && (noL (rds r2) && true))) = true
    rw [noL_rds, noL_rds, noL_rds]
    rfl, fun i σ' H' => ∃ y4, σ' = [some (.ref r), some (.int (n : Int)), some v2, some v3, y4, none, none, none, none] ∧ Mv T r H8 H', ⟨none, rfl, Mv.refl⟩, fun i σ' H' h => by obtain ⟨_, _, h⟩ := h; exact h.t hD8, fun i d v σ' H' hd hP dv => ?_, fun σ' H9 hP => ?_⟩
  · obtain ⟨y4, rfl, M⟩ := hP
    obtain ⟨ri, rfl, hAi, hci⟩ : ∃ ri, d = rds ri ∧ AllD ri ∧ clsOf ri = clsOf rs := by
      have hm := List.mem_of_getElem? hd
      simp only [List.mem_cons, List.not_mem_nil, or_false] at hm
      rcases hm with rfl | rfl | rfl
      · exact ⟨rs, rfl, hA, rfl⟩
      · exact ⟨r1, rfl, hA1, hc1⟩
      · exact ⟨r2, rfl, hA2, hc2⟩
    have d3' := dp_exT (M.t hD8) _ _ (noL_clsD _) d38
    have dcls : ∀ {H : Hp}, Dp X.K H v3 (clsD (clsOf rs)) → Dp X.K H v3 (clsD (clsOf ri)) := fun h => by rw [hci]; exact h
    refine tg_name 4 (sb_one (st_ifF (rt_or2 (et_cmp (neC X (clsOf rs)) (ED.is (ed_call c6 (ea_cons (ed_var 4 rfl dv) ea_nil) ⟨ri, rfl, hAi.val, rfl⟩) (by rw [hci])) (ed_var 3 rfl d3')) fun H10 q10 => rt_not (rt_val (rn_callM c7 0 rfl ((M.dice hD8).ex q10) ((M.tab hT8).ext q10) (ea_cons (ed_var 3 rfl (dcls (q10.dp d3'))) (ea_cons (ed_var 4 rfl (q10.dp dv)) ea_nil)) ⟨ri, rfl, hAi⟩ fun d v H11 hp m11 dv => ?_)))))
    have hp : d = .bool true := hp
    subst hp
    cases dv
    exact ⟨true, rfl, rfl, sb_nil ⟨_, rfl, (M.trans (Mv.ex q10)).trans m11⟩⟩
  obtain ⟨y4, rfl, M9⟩ := hP
  have d29 := dp_exT (M9.t hD8) _ _ (noL_rds _) d28
  have d39 := dp_exT (M9.t hD8) _ _ (noL_clsD _) d38
  have MH9 := M8.trans M9
  -- four times put back
  refine sb_cons (st_for (ei_range1 ed_int (by decide) (by decide)) fun H10 q10 => ⟨fun j σ' H' => ∃ y4 y5 y6 y7, σ' = [some (.ref r), some (.int (n : Int)), some v2, some v3, y4, y5, y6, y7, none] ∧ Mv T r H9 H', ⟨y4, none, none, none, rfl, Mv.ex q10⟩, fun _ _ _ _ => True.intro, fun j d v σ' H' H'' hd hP q11 dv => ?_, fun σ' H11 hP => ?_⟩)
  · obtain ⟨y4, y5, y6, y7, rfl, M⟩ := hP
    have M' := M.trans (Mv.ex q11)
    have hD9 := MH9.dice hD
    have hT9 := MH9.tab hT
    have hDl := M'.dice hD9
    have hTl := M'.tab hT9
    have tl := M'.t hD9
    refine tg_name 5 (sb_cons ?_)
    refine st_asgR 6 (of_pe (pe_callTy call_tuple_of (C.gl _ (by decide +kernel)) B.tuple boot_tuple (pa_run _) (by decide) (by decide) (by rfl) (by rfl)) (ra1 (rn_lot (T := T) (own := [("_law_clock", 8)]) (r := r) (n := n) 8 (ei_range1 (ed_var 1 rfl (.int (n : Int))) (by omega) (by omega)) n3 hDl (fun s0 H0 A cl fp C' jj H12 m12 Q' hq => ?_) fun lot pl H12 hlot m12 hpl => ?_)))
    · refine rt_eqI (rn_callM c1 0 rfl (m12.dice hDl) (m12.tab hTl) (ea_cons ed_int ea_nil) ⟨2, rfl, by decide, by decide⟩ fun d v H13 hp m13 dv => ?_)
      obtain ⟨_, ii, _, rfl, _, _⟩ := hp
      exact ed_int.go fun v2 H14 q14 d2 => ⟨_, _, dp_int dv, dp_int d2, fun t => hq t H14 (m13.trans (Mv.ex q14))⟩
    · refine ⟨pl, lot.map V.int, rfl, .inl ⟨sq_of hpl, fun al hal => ?_⟩⟩
      have q13 : Ex H12 (upd H12 al (.tup (lot.map V.int))) := Evl.Ex.new hal
      have dlot : Dp X.K (upd H12 al (.tup (lot.map V.int))) (.ref al) (igs lot) := .tup (st_of upd_same) (dpa_ints lot)
      generalize upd H12 al (.tup (lot.map V.int)) = H13 at q13 dlot
      have M13 : Mv T r H9 H13 := (M'.trans m12).trans (Mv.ex q13)
      have t13 : ExT H9 H13 := M13.t hD9
      have d213 := dp_exT t13 _ _ (noL_rds _) d29
      have d313 := dp_exT t13 _ _ (noL_clsD _) d39
      have hlot' : Lot (clsOf rs).1.length lot := by rw [hcl, hln]; exact hlot
      have hlotr : ∀ {r' : List (Int × Int)}, clsOf r' = clsOf rs → Lot r'.length lot := fun {r'} h => by
        have h1 := cls_len r'
        rw [h, hcl, hln] at h1
        rw [← h1]
        exact hlot
      refine sb_cons (st_asg 7 (ed_call c8 (ea_cons (ed_var 3 rfl d313) (ea_cons (ed_var 6 rfl dlot) ea_nil)) ⟨_, lot, rfl, W, hlot', rfl⟩) fun v7 H14 q14 d7 => ?_)
      have M14 := M13.trans (Mv.ex q14)
      -- both readings
      refine sb_cons (st_forT (rn_tup (ra_ed (ed_var 2 rfl (q14.dp d213)) fun u1 H15 q15 e1 => ra1 (rn_callM c4 0 rfl ((M14.dice hD9).ex q15) ((M14.tab hT9).ext q15) (ea_cons (ed_var 3 rfl ((q14.trans q15).dp d313)) ea_nil) ⟨_, rfl, W⟩ fun d u2 H16 hp m16 e2 => ?_))))
      obtain ⟨cc, Dd, Ts, ee, p1, p2, p3, p4, p5, rfl⟩ := hp
      obtain ⟨hB1, hb1⟩ := point ee p1 p2 p3 p4 p5
      generalize ptL cc.2 Dd (0 :: Ts) 0 cc.1 = r3 at hB1 hb1 e2
      refine ⟨Nat.le_of_ble_eq_true rfl, fun pt hpt => ?_⟩
      have q17 : Ex H16 (upd H16 pt (.tup [u1, u2])) := Evl.Ex.new hpt
      have h17 : (upd H16 pt (.tup [u1, u2])) pt = some (.tup [u1, u2]) := upd_same
      generalize upd H16 pt (.tup [u1, u2]) = H17 at q17 h17
      have hD15 := (M14.dice hD9).ex q15
      have M17 : Mv T r H9 H17 := ((M14.trans (Mv.ex q15)).trans m16).trans (Mv.ex q17)
      have t17 : ExT H15 H17 := (m16.t hD15).trans q17.t
      have d317 := dp_exT ((q14.trans q15).t.trans t17) _ _ (noL_clsD _) d313
      have d617 := dp_exT ((q14.trans q15).t.trans t17) _ _ (noL_ints _) dlot
      have d717 := dp_exT (q15.t.trans t17) _ _ (noL_clsD _) d7
      have hD17 := M17.dice hD9
      have hT17 := M17.tab hT9
      refine ⟨[rds rs, rds r3], .tup (st_of h17) (.cons (dp_exT t17 _ _ (noL_rds _) e1) (.cons (q17.dp e2) .nil)), by
        show (noL (rds rs) && (noL (rds r3) && true)) = true
        rw [noL_rds, noL_rds]
        rfl, fun i σ' H' => ∃ y4, σ' = [some (.ref r), some (.int (n : Int)), some v2, some v3, y4, some v, some (.ref al), some v7, none] ∧ Mv T r H17 H', ⟨y4, rfl, Mv.refl⟩, fun i σ' H' h => by obtain ⟨_, _, h⟩ := h; exact h.t hD17, fun i d u σ' H' hd hP du => ?_, fun σ' H18 hP => ?_⟩
      · obtain ⟨y4, rfl, Mi⟩ := hP
        obtain ⟨ri, rfl, hAi, hci⟩ : ∃ ri, d = rds ri ∧ AllD ri ∧ clsOf ri = clsOf rs := by
          have hm := List.mem_of_getElem? hd
          simp only [List.mem_cons, List.not_mem_nil, or_false] at hm
          rcases hm with rfl | rfl
          · exact ⟨rs, rfl, hA, rfl⟩
          · exact ⟨r3, rfl, hB1, hb1⟩
        obtain ⟨hB, hbk⟩ := back_in hAi (hlotr hci)
        rw [hci] at hbk
        have ti := Mi.t hD17
        refine tg_name 4 (sb_one (st_ifF (rt_cmp (neC X (putOf (clsOf rs) lot)) (rn_var 7 rfl (rn_callT c3 (ea_cons (ed_call c9 (ea_cons (ed_var 4 rfl du) (ea_cons (ed_var 6 rfl (dp_exT ti _ _ (noL_ints _) d617)) ea_nil)) ⟨ri, lot, rfl, by have := hAi.l3; omega, rfl⟩) ea_nil) ⟨_, rfl, hB.ok2, hB.l3, rfl⟩ (Mi.tab hT17) fun vq H19 e19 T19 dq => ?_)))))
        rw [hbk] at dq
        exact ⟨dp_exT (ti.trans e19.t) _ _ (noL_clsD _) d717, dq, fun H20 q20 => ⟨rfl, sb_nil ⟨_, rfl, (Mi.trans (Mv.exN e19 T19)).trans (Mv.ex q20)⟩⟩⟩
      · obtain ⟨y4, rfl, Mi⟩ := hP
        have ti := Mi.t hD17
        have d718 := dp_exT ti _ _ (noL_clsD _) d717
        have d618 := dp_exT ti _ _ (noL_ints _) d617
        obtain ⟨hB, hbk⟩ := back_in hA (hlotr rfl)
        have Wp : Wf (putOf (clsOf rs) lot) := by rw [← hbk]; exact wf_of hB.val
        have hlp : Lot (putOf (clsOf rs) lot).1.length lot := by
          rw [← hbk, cls_len, backF_len]
          exact hlotr rfl
        refine sb_one (st_if (t := false) (et_cmp (neC X (putOf (clsOf rs) lot)) (ED.is (ed_call c8 (ea_cons (ed_var 7 rfl d718) (ea_cons (ed_var 6 rfl d618) ea_nil)) ⟨_, lot, rfl, Wp, hlp, rfl⟩) (by rw [put_twice hA (hlotr rfl)])) (ed_var 7 rfl d718)) (fun h => nomatch h) fun _ H19 q19 => sb_nil ⟨_, _, _, _, rfl, (M17.trans Mi).trans (Mv.ex q19)⟩)
  · obtain ⟨y4, y5, y6, y7, rfl, M⟩ := hP
    have hD9 := MH9.dice hD
    have d311 := dp_exT (M.t hD9) _ _ (noL_clsD _) d39
    have hlall : Lot (clsOf rs).1.length (rgI 0 n) := by
      rw [hcl, hln]
      exact lot_all n n3
    have hpa := put_all hA
    rw [hln] at hpa
    have tupR : ∀ {e : Expr} {H' : Hp} {σ' : L2.St}, ED X e σ' H' (.tuple (rgD 0 n)) → ED X e σ' H' (igs (rgI 0 n)) := fun h => ED.is h (by rw [rgD_ints]; rfl)
    refine sb_one (st_ret (ED.is (ed_and (t := true) (u := true) (ED.is (ed_cmp (od_eqD (sh_cls (clsOf rs)) (sh_cls (clsOf rs))) (ED.is (ed_call c8 (ea_cons (ed_var 3 rfl d311) (ea_cons (ed_tup (ds := ([] : List Int).map PyData.int) ea_nil) ea_nil)) ⟨clsOf rs, [], rfl, W, lot_nil _, rfl⟩) (by rw [put_nil hA])) (ed_var 3 rfl d311)) (by rw [eqv_cls])) fun _ => ed_and1 (ED.is (ed_cmp (od_eqD (sh_cls (List.replicate n 0, [rgI 0 n])) (sh_cls (List.replicate n 0, [rgI 0 n]))) (ED.is (ed_call c8 (ea_cons (ed_var 3 rfl d311) (ea_cons (tupR (ed_tupR1 (ed_var 1 rfl (.int (n : Int))) (RgOk.of_le (by decide) (by omega) (by decide) (by omega)))) ea_nil)) ⟨clsOf rs, rgI 0 n, rfl, W, hlall, rfl⟩) (by rw [hpa]))
      (ED.is (ed_tup (ds := [.tuple (List.replicate n (.int 0)), .tuple [igs (rgI 0 n)]]) (ea_cons (ed_bin (od_repT n1 n3) (ed_tup (ea_cons ed_int ea_nil)) (ed_var 1 rfl (.int (n : Int)))) (ea_cons (ed_tup (ea_cons (tupR (ed_tupR1 (ed_var 1 rfl (.int (n : Int))) (RgOk.of_le (by decide) (by omega) (by decide) (by omega)))) ea_nil)) ea_nil))) (by
        unfold clsD
        rw [show (List.replicate n 0, [rgI 0 n]).1 = List.replicate n (0 : Int) from rfl]
        unfold igs
        rw [List.map_replicate]
        rfl))) (by rw [eqv_cls]))) rfl) fun v H12 q12 dv => q _ v H12 rfl ((MH9.trans M).trans (Mv.ex q12)) dv)
end
end K9

namespace K9
open PySem PySem.Spec PyProof.Rows L2 KD
open Evl (Ex sq_of st_of fresh_back ex_l ex_t)
/-! ### law -/
def wfB (c : Cls) : Bool :=
  decide (1 ≤ c.1.length) && decide (c.2 ≠ []) && decide (∀ g ∈ c.2, (∀ x ∈ g, 0 ≤ x ∧ x ≤ (c.1.length : Int) - 1) ∧ g.Pairwise (· < ·) ∧ g.length ≤ 1000) && decide (∀ g ∈ c.2.tail, g ≠ []) && decide (srt c.2.flatten = rgI 0 c.1.length) && decide (c.1.length ≤ 3) && decide (c.2.length ≤ 1000) &&
    decide (∀ w ∈ c.1, 0 ≤ w ∧ w ≤ 4) && decide (∀ i ∈ List.range c.1.length, c.1.getD i 0 < 4 ∨ ((i : Nat) : Int) ∈ c.2.headD [])
theorem wf_b {c : Cls} (h : wfB c = true) : Wf c := by
  unfold wfB at h
  simp only [Bool.and_eq_true, decide_eq_true_eq] at h
  obtain ⟨⟨⟨⟨⟨⟨⟨⟨h1, h2⟩, h3⟩, h4⟩, h5⟩, h6⟩, h7⟩, h8⟩, h9⟩ := h
  refine ⟨h1, ⟨h2, h3, h4, by rw [h5, rgD_ints], h6, h7⟩, h8, fun i w e => ?_⟩
  have hi := (List.getElem?_eq_some_iff.mp e).1
  have := h9 i (List.mem_range.mpr hi)
  rw [List.getD_eq_getElem?_getD, e] at this
  exact this
theorem def_okF {P : Program} {w : World} {K : PySem.W.Frag} {mg : Str → Option Value} {base : Heap} {x : Str} {st : Stmt} {f : Addr} {fd : FuncData} {N ps : List Str} {k : Nat} {sp : Sp} (D : C8.Fun K x x st f fd) (hS : C8.scC N ps (C8.fnScope st) = true) (hl : ∀ vs H Q E, sp vs H Q E → vs.length = ps.length)
    (body : ∀ (X : Cx), X.prog = P → X.w = w → X.K = K → X.mg = mg → X.base = base → Cn X N (C8.fnScope st) k → ∀ (H : Hp) (vs : List V) (Q : VK) (E : XK), sp vs H Q E → runB X (C8.fnBody st) { nx := fun _ H' => Q .non H', rt := Q } (L2.start N vs) H) :
    FnOk P w K mg base C8.CX0 (k + 1) f fd ps sp := by
  obtain ⟨oc, od, dV, kV, doc, pm, an, cdv, ct, osl, rfl, lk, hcd⟩ := D.ex
  refine fn_of lk hcd (C8.fnScope_by hS) hl fun A outer s H vs Q E hr hsp => ?_
  exact ⟨runB _ _, (pb_run (X := (cxOf C8.CX0 P w K mg base N x (C8.fnScope st) f cdv A outer s H E).nox) _).nox, body _ rfl rfl rfl rfl rfl (cn_def (C8.fnScope_by hS) hr) H vs Q E hsp⟩
theorem sql_new {K : PySem.W.Frag} {T : List (Addr × Str)} {r a : Addr} {H H1 H2 : Hp} {xs : List V} (hr : H r = none) (e : Ex H H1) (m : Mv T r H1 H2) (d : Dice H1 r) (h : SqL K H a xs) : SqL K H2 a xs := by
  rcases h with (h | ⟨o, h⟩) | h
  · exact .inl (.inl (m.keep a _ (fun z => by rw [z, hr] at h; cases h) (e _ _ h) fun ps z => by cases z))
  · exact .inl (.inr ⟨o, m.keep a _ (fun z => by rw [z, hr] at h; cases h) (e _ _ h) fun ps z => by cases z⟩)
  · exact .inr h
theorem rn_callS {X : Cx} {N : List Str} {sc : Scope} {k : Nat} {σ : L2.St} {H : Hp} {e : Expr} {es : List Expr} {ds : List PyData} {x : Str} {pos p : Pos} {sp : Sp} {Q : VK} [C : Cn X N sc k] {j : Nat} (c : C8.Cal X.prog X.w X.K X.mg X.base j x sp []) (ha : EA X (e :: es) σ H ds) (h : ∀ vs H1, Ex H H1 → DpAll X.K H1 vs ds → sp vs H1 Q C8.E0) (hk : j ≤ k := by decide) (hs : glB sc x = true := by decide +kernel)
    (he : starEach (e :: es) X.env = (false, eval e X.env) :: starEach es X.env := by rfl) (hpl : (backTo pos (starEach es X.env)).any (·.1) = false := by rfl) : run X (.Call (.Name x p) (e :: es) [] pos) σ H Q :=
  of_pe (C8.pe_c c C.room hk (C.gl x (glB_of hs).1) (pa_run _) (glB_of hs).2.1 he hpl) (ha.go fun vs H1 q1 dvs => by
    show sp (vs ++ []) H1 Q _
    rw [List.append_nil]
    exact h vs H1 q1 dvs)
def stepL (s : Option Cls × Int) : Option Cls × Int := match s.1 with
  | none => s
  | some c => (nextOf c, s.2 + 1)
def stL : Nat → Option Cls × Int
  | 0 => (some ([0], [[0]]), 0)
  | n + 1 => stepL (stL n)
def okL (s : Option Cls × Int) : Bool := match s.1 with
  | none => true
  | some c => wfB c
theorem okL_all : ∀ i ∈ List.range 12, okL (stL i) = true := by decide +kernel
theorem stL_end : (stL 12).2 = 9 := by decide +kernel
def cA : Cls := ([0, 3, 2], [[1], [0, 2]])
def cB : Cls := ([0, 3, 2], [[], [1], [0, 2]])
def cC : Cls := ([4], [[0]])
def dueL : List PyData := [clsD ([0, 3, 2], [[], [1], [0, 2]]), clsD ([1, 3, 3], [[0, 2], [1]]), clsD ([0, 3, 2], [[0, 1], [2]]), clsD ([0, 3, 0], [[0, 1, 2]]), .none]
section
variable {P : Program} {w : World} {K : PySem.W.Frag} {mg : Str → Option Value} {base : Heap} {f : Addr} {fd : FuncData} {T : List (Addr × Str)}
def spLaw (T : List (Addr × Str)) (K : PySem.W.Frag) : Sp := fun vs H Q _ => ∃ ns : List Int, DpAll K H vs [.list (ns.map PyData.int)] ∧ ns.length ≤ 1000 ∧ LamX.Tabs T H ∧ ∀ H', Q (.bl true) H'
theorem ok_law [B : Bl mg] (D : C8.Fun K "law" "law" (topS 57) f fd) (c1 : C8.Cal P w K mg base 1 "_law_dice" (spDice K) []) (c2 : C8.Cal P w K mg base 10 "_law_right" (spM T K (fun ds => ds = []) QTrue) []) (c3 : C8.Cal P w K mg base 8 "next_class" (spD K FNextIn) []) (c4 : C8.Cal P w K mg base 8 "put_back" (spD K FPut) []) :
    FnOk P w K mg base C8.CX0 11 f fd ["_law_script"] (spLaw T K) := by
  refine def_okF (N := ["_law_script", "_law_spot", "_law_dice_here", "_law_turn", "_law_one", "_law_told", "_law_due", "_law_here", "_law_many"]) D (by decide +kernel) (fun vs H Q E h => by obtain ⟨ns, h1, _⟩ := h; exact dpa_len h1) ?_
  rintro X rfl rfl rfl rfl rfl C H vs Q E hsp
  obtain ⟨ns, hv, hns, hT, q⟩ := hsp
  obtain ⟨v0, rfl, d0⟩ := dpa1 hv
  obtain ⟨a0, x0, rfl, hx0, hd0⟩ := dp_lst d0
  obtain rfl := dpa_ints_eq hd0
  have dS : ∀ {H' : Hp}, SqL X.K H' a0 (ns.map V.int) → Dp X.K H' (.ref a0) (.list (ns.map PyData.int)) := fun h => .lst h (dpa_ints ns)
  have hlen : (ns.map PyData.int).length = ns.length := List.length_map ..
  refine sb_cons (st_for (ei_range1 (ed_max ed_int (ed_min ed_int (ed_lenL (ed_var 0 rfl (dS hx0))))) (by rw [hlen]; split <;> omega) (by rw [hlen]; split <;> omega)) fun H1 q1 => ⟨fun i σ' H' => ∃ y1 y2 y3, σ' = [some (.ref a0), y1, y2, y3, none, none, none, none, none] ∧ LamX.Tabs T H' ∧ SqL X.K H' a0 (ns.map V.int), ⟨none, none, none, rfl, hT.ext q1, ex_l q1 hx0⟩, fun _ _ _ _ => True.intro, fun i d v σ' H' H'' hd hP q2 dv => ?_, fun σ' H2 hP => ?_⟩)
  · obtain ⟨y1, y2, y3, rfl, hT', hx'⟩ := hP
    obtain ⟨rfl, _⟩ := rgD_get hd
    cases dv
    have hx2 := ex_l q2 hx'
    have hT2 := hT'.ext q2
    refine tg_name 1 (sb_cons (st_asgR 2 (rn_callS c1 (ea_cons (ed_var 0 rfl (dS hx2)) (ea_cons (ed_var 1 rfl (.int _)) ea_nil)) fun vs H3 q3 dvs => ⟨ns, _, dvs, by omega, fun r H4 hr q4 hD => ?_⟩)))
    have hx3 := ex_l q3 hx2
    have hT4 := hT2.ext (q3.trans q4)
    refine sb_one (st_for (ei_range1 ed_int (by decide) (by decide)) fun H5 q5 => ⟨fun j σ' H' => ∃ y3, σ' = [some (.ref a0), some (.int (0 + (i : Nat))), some (.ref r), y3, none, none, none, none, none] ∧ Mv T r H4 H', ⟨y3, rfl, Mv.ex q5⟩, fun _ _ _ _ => True.intro, fun j d v σ' H' H'' hd hP q6 dv => ?_, fun σ' H6 hP => ?_⟩)
    · obtain ⟨y3, rfl, M⟩ := hP
      have M' := M.trans (Mv.ex q6)
      refine tg_name 3 (sb_one (st_ifF (rt_not (rt_val (rn_callM c2 2 rfl (M'.dice hD) (M'.tab hT4) ea_nil rfl fun d v H7 hp m7 dv => ?_)))))
      have hp : d = .bool true := hp
      subst hp
      cases dv
      exact ⟨true, rfl, rfl, sb_nil ⟨_, rfl, M'.trans m7⟩⟩
    · obtain ⟨y3, rfl, M⟩ := hP
      exact ⟨_, _, _, rfl, M.tab hT4, sql_new hr q4 M hD hx3⟩
  obtain ⟨y1, y2, y3, rfl, hT', hx'⟩ := hP
  -- the told ones
  refine sb_cons (st_asg 4 (d := clsD cA) (ED.is (ed_tup (ea_cons (ed_tup (ea_cons ed_int (ea_cons ed_int (ea_cons ed_int ea_nil)))) (ea_cons (ed_tup (ea_cons (ed_tup (ea_cons ed_int ea_nil)) (ea_cons (ed_tup (ea_cons ed_int (ea_cons ed_int ea_nil))) ea_nil))) ea_nil))) rfl) fun v4 H3 q3 d4 => ?_)
  have WA : Wf cA := wf_b (by decide +kernel)
  have WB : Wf cB := wf_b (by decide +kernel)
  have WC : Wf cC := wf_b (by decide +kernel)
  have L1 : Lot cA.1.length [0] := ⟨by decide, by decide, by decide⟩
  have L2 : Lot cA.1.length [0, 2] := ⟨by decide, by decide, by decide⟩
  refine sb_cons (st_asg 5 (d := .list dueL) (EL.ed (EL.is (el_lst (ea_cons (ed_call c3 (ea_cons (ed_var 4 rfl d4) ea_nil) ⟨cA, rfl, WA, rfl⟩) (ea_cons (ed_call c3 (ea_cons (ED.is (ed_call c3 (ea_cons (ed_var 4 rfl d4) ea_nil) ⟨cA, rfl, WA, rfl⟩) (d1 := clsD cB) rfl) ea_nil) ⟨cB, rfl, WB, rfl⟩)
    (ea_cons (ed_call c4 (ea_cons (ed_var 4 rfl d4) (ea_cons (ed_tup (ds := ([0] : List Int).map PyData.int) (ea_cons ed_int ea_nil)) ea_nil)) ⟨cA, [0], rfl, WA, L1, rfl⟩) (ea_cons (ed_call c4 (ea_cons (ed_var 4 rfl d4) (ea_cons (ed_tup (ds := ([0, 2] : List Int).map PyData.int) (ea_cons ed_int (ea_cons ed_int ea_nil))) ea_nil)) ⟨cA, [0, 2], rfl, WA, L2, rfl⟩)
    (ea_cons (ed_call c3 (ea_cons (ED.is (ed_tup (ea_cons (ed_tup (ea_cons ed_int ea_nil)) (ea_cons (ed_tup (ea_cons (ed_tup (ea_cons ed_int ea_nil)) ea_nil)) ea_nil))) (d1 := clsD cC) rfl) ea_nil) ⟨cC, rfl, WC, rfl⟩) ea_nil)))))) ?_)) fun v5 H4 q4 d5 => ?_)
  · rfl
  refine sb_cons (st_asg 6 (d := .list dueL) (EL.ed (EL.is (el_lst (ea_cons (ed_tup (ea_cons (ed_tup (ea_cons ed_int (ea_cons ed_int (ea_cons ed_int ea_nil)))) (ea_cons (ed_tup (ea_cons (ed_tup ea_nil) (ea_cons (ed_tup (ea_cons ed_int ea_nil)) (ea_cons (ed_tup (ea_cons ed_int (ea_cons ed_int ea_nil))) ea_nil)))) ea_nil)))
    (ea_cons (ed_tup (ea_cons (ed_tup (ea_cons ed_int (ea_cons ed_int (ea_cons ed_int ea_nil)))) (ea_cons (ed_tup (ea_cons (ed_tup (ea_cons ed_int (ea_cons ed_int ea_nil))) (ea_cons (ed_tup (ea_cons ed_int ea_nil)) ea_nil))) ea_nil)))
    (ea_cons (ed_tup (ea_cons (ed_tup (ea_cons ed_int (ea_cons ed_int (ea_cons ed_int ea_nil)))) (ea_cons (ed_tup (ea_cons (ed_tup (ea_cons ed_int (ea_cons ed_int ea_nil))) (ea_cons (ed_tup (ea_cons ed_int ea_nil)) ea_nil))) ea_nil)))
    (ea_cons (ed_tup (ea_cons (ed_tup (ea_cons ed_int (ea_cons ed_int (ea_cons ed_int ea_nil)))) (ea_cons (ed_tup (ea_cons (ed_tup (ea_cons ed_int (ea_cons ed_int (ea_cons ed_int ea_nil)))) ea_nil)) ea_nil)))
    (ea_cons ed_non ea_nil)))))) rfl)) fun v6 H5 q5 d6 => ?_)
  have shD : SeqAt.shaped (.list dueL) = true := by decide +kernel
  refine sb_cons (st_if (t := false) (ET.is (et_cmp (od_neD shD shD) (ed_var 5 rfl (q5.dp d5)) (ed_var 6 rfl d6)) (by decide +kernel)) (fun h => nomatch h) fun _ H6 q6 => sb_nil ?_)
  -- twelve steps
  refine sb_cons (st_parC ((ED.is (ed_tup (ea_cons (ed_tup (ea_cons ed_int ea_nil)) (ea_cons (ed_tup (ea_cons (ed_tup (ea_cons ed_int ea_nil)) ea_nil)) ea_nil))) (d1 := optD (stL 0).1) rfl).go fun v7 H7 q7 d7 => ed_int.go fun v8 H8 q8 d8 rr hrr => tg_twoV 7 8 upd_same ?_) (swap_fold (by rfl)))
  cases d8
  have d77 : Dp X.K (upd H8 rr (.tup [v7, .int 0])) v7 (optD (stL 0).1) := (Evl.Ex.new hrr).dp (q8.dp d7)
  generalize upd H8 rr (.tup [v7, .int 0]) = H9 at d77
  refine sb_cons (st_for (ei_range1 ed_int (by decide) (by decide)) fun H10 q10 => ⟨fun i σ' H' => ∃ y3 y7, σ' = [some (.ref a0), y1, y2, y3, some v4, some v5, some v6, some y7, some (.int (stL i).2)] ∧ Dp X.K H' y7 (optD (stL i).1), ⟨y3, v7, rfl, q10.dp d77⟩, fun _ _ _ _ => True.intro, fun i d v σ' H' H'' hd hP q11 dv => ?_, fun σ' H11 hP => ?_⟩)
  · obtain ⟨y3, y7, rfl, dh⟩ := hP
    obtain ⟨rfl, hi⟩ := rgD_get hd
    have hok := okL_all i (List.mem_range.mpr (by omega))
    have es : stL (i + 1) = stepL (stL i) := rfl
    cases e : (stL i).1 with
    | none =>
      rw [e] at dh
      have e2 : stL (i + 1) = stL i := by
        rw [es]
        unfold stepL
        rw [e]
      refine tg_name 3 (sb_one (st_if (t := false) (ET.is (et_cmp od_notN (ed_var 7 rfl (q11.dp dh)) ed_non) rfl) (fun h => nomatch h) fun _ H12 q12 => sb_nil ⟨_, y7, by rw [e2]; rfl, by rw [e2, e]; exact q12.dp (q11.dp dh)⟩))
    | some c =>
      rw [e] at dh
      have e2 : stL (i + 1) = (nextOf c, (stL i).2 + 1) := by
        rw [es]
        unfold stepL
        rw [e]
      have Wc : Wf c := wf_b (by
        unfold okL at hok
        rw [e] at hok
        exact hok)
      refine tg_name 3 (sb_one (st_if (t := true) (ET.is (et_cmp od_notN (ed_var 7 rfl (q11.dp dh)) ed_non) rfl) (fun _ H12 q12 => ?_) fun h => nomatch h))
      refine sb_one (st_par 7 8 (ed_call c3 (ea_cons (ed_var 7 rfl (q12.dp (q11.dp dh))) ea_nil) ⟨c, rfl, Wc, rfl⟩) (ed_bin od_add (ed_var 8 rfl (.int _)) ed_int) fun v13 v14 H13 q13 d13 d14 => ?_)
      cases d14
      exact ⟨_, v13, by rw [e2]; rfl, by rw [e2]; exact d13⟩
  · obtain ⟨y3, y7, rfl, dh⟩ := hP
    rw [rgD_len]
    refine sb_one (st_ret (ED.is (ed_cmp od_eqI (ed_var 8 rfl (.int _)) ed_int) (d1 := .bool true) ?_) fun v H12 q12 dv => ?_)
    · show PyData.bool (decide ((stL 12).2 = 9)) = _
      rw [stL_end]
      rfl
    · cases dv
      exact q H12
end
end K9

namespace K9
open PySem PySem.Spec PyProof.Rows L2 KD
/-! ### the end: what the top has written -/
/-- a def that stands under its name -/
def Has (K : PySem.W.Frag) (mg : Str → Option Value) (x : Str) (st : Stmt) (ps : List Str) : Prop := ∃ (f : Addr) (fd : FuncData), C8.Def K mg x st f fd ∧ Binds K fd ps []
theorem has_mk {K : PySem.W.Frag} {h : Heap} {mg : Str → Option Value} (X : K.In h) (G : h.Ns mainGlobals mg) {x : Str} {st : Stmt} {f : Addr} {oc kV dc pm cd ct : Value} {od an : Option Addr} {sl : Array (Option Value)} {ps : List Str}
    (hb : ∀ (kV doc pm : Value) (an : Option Addr) (cdv ct : Value) (us : List Value), us.length = ps.length → bindArgs (PySem.W.fnOf x x (C8.fnArgs st) (C8.fnBody st) (C8.fnScope st) .none kV doc pm an cdv ct) ⟨us, []⟩ = pure (ps.zip us))
    (a : PySem.W.nsIn K mainGlobals x = some (some (.ref f))) (l : K.lookup f = some ⟨oc, od, .func (PySem.W.fnOf x x (C8.fnArgs st) (C8.fnBody st) (C8.fnScope st) .none kV dc pm an cd ct), sl⟩) (c : PySem.W.codeIn K cd x = true) (k : PySem.W.keepIn K (.ref f) = true) : Has K mg x st ps := by
  have F : C8.Fun K x x st f (PySem.W.fnOf x x (C8.fnArgs st) (C8.fnBody st) (C8.fnScope st) .none kV dc pm an cd ct) := ⟨oc, od, .none, kV, dc, pm, an, cd, ct, sl, rfl, l, c⟩
  exact ⟨f, _, ⟨F, PySem.W.mg_of X G a, k⟩, F.binds rfl hb⟩
/-- the one whose code is known -/
def HasC (K : PySem.W.Frag) (mg : Str → Option Value) (x : Str) (st : Stmt) (ps : List Str) (c : Addr) : Prop := ∃ (f : Addr) (fd : FuncData), C8.Def K mg x st f fd ∧ Binds K fd ps [] ∧ fd.code = .ref c
theorem hasC_mk {K : PySem.W.Frag} {h : Heap} {mg : Str → Option Value} (X : K.In h) (G : h.Ns mainGlobals mg) {x : Str} {st : Stmt} {f c : Addr} {oc kV dc pm ct : Value} {od an : Option Addr} {sl : Array (Option Value)} {ps : List Str}
    (hb : ∀ (kV doc pm : Value) (an : Option Addr) (cdv ct : Value) (us : List Value), us.length = ps.length → bindArgs (PySem.W.fnOf x x (C8.fnArgs st) (C8.fnBody st) (C8.fnScope st) .none kV doc pm an cdv ct) ⟨us, []⟩ = pure (ps.zip us))
    (a : PySem.W.nsIn K mainGlobals x = some (some (.ref f))) (l : K.lookup f = some ⟨oc, od, .func (PySem.W.fnOf x x (C8.fnArgs st) (C8.fnBody st) (C8.fnScope st) .none kV dc pm an (.ref c) ct), sl⟩) (cc : PySem.W.codeIn K (.ref c) x = true) (k : PySem.W.keepIn K (.ref f) = true) : HasC K mg x st ps c := by
  have F : C8.Fun K x x st f (PySem.W.fnOf x x (C8.fnArgs st) (C8.fnBody st) (C8.fnScope st) .none kV dc pm an (.ref c) ct) := ⟨oc, od, .none, kV, dc, pm, an, .ref c, ct, sl, rfl, l, cc⟩
  exact ⟨f, _, ⟨F, PySem.W.mg_of X G a, k⟩, F.binds rfl hb, rfl⟩
theorem gi_mk {K : PySem.W.Frag} {h : Heap} {mg : Str → Option Value} (X : K.In h) (G : h.Ns mainGlobals mg) {x : Str} {n : Int} {t : Tok} (a : PySem.W.nsIn K mainGlobals x = some (some (.int n t))) : GI mg x n := ⟨_, PySem.W.mg_of X G a, t, rfl⟩
def lamN : Str := (Str.ofString "_law_cq_of" ++ Str.ofString ".<locals>.") ++ Str.ofString "<lambda>"

/-- all the defs, joined -/
theorem all_fn {P : Program} {w : World} {K : PySem.W.Frag} {mg : Str → Option Value} {base : Heap} {T : List (Addr × Str)} {c Pt f : Addr} {fd : FuncData} [B : Bl mg] (GG : GI mg "GREATEST" GREAT) (GF : GI mg "PAIR_fractions" 2) (GN : GI mg "MOST_NUMBER" 4) (GM : GI mg "MOST_CLOCKS" 3) (GP : GI mg "PAIR_classes" 2)
    (TB : LamX.TabB base mg c Pt) (hm : (Pt, lamN) ∈ T) (hu : ∀ p ∈ T, p.1 = Pt → p.2 = lamN)
    (d7 : Has K mg "is_whole" (topS 7) ["value"])
    (d8 : Has K mg "is_short" (topS 8) ["value"])
    (d9 : Has K mg "is_from" (topS 9) ["value", "least", "most"])
    (d12 : Has K mg "shared_in" (topS 12) ["one", "other"])
    (d13 : Has K mg "lowest" (topS 13) ["top", "bottom"])
    (d14 : Has K mg "whole_in" (topS 14) ["one"])
    (d15 : Has K mg "is_fraction" (topS 15) ["value"])
    (d16 : Has K mg "is_margin" (topS 16) ["value"])
    (d21 : Has K mg "are_readings" (topS 21) ["value", "clocks"])
    (d22 : Has K mg "are_low" (topS 22) ["value", "clocks"])
    (d23 : Has K mg "is_lot" (topS 23) ["clocks", "value"])
    (d24 : Has K mg "is_order" (topS 24) ["clocks", "value"])
    (d25 : Has K mg "is_class_of" (topS 25) ["clocks", "value"])
    (d26 : Has K mg "is_class_any" (topS 26) ["value"])
    (d27 : Has K mg "class_in" (topS 27) ["readings"])
    (d28 : Has K mg "point_of" (topS 28) ["cls"])
    (d29 : Has K mg "raised" (topS 29) ["wholes", "clocks"])
    (d30 : Has K mg "next_in" (topS 30) ["cls"])
    (d31 : Has K mg "put_back_in" (topS 31) ["cls", "clocks"])
    (d32 : Has K mg "require_low" (topS 32) ["value", "clocks"])
    (d33 : Has K mg "require_class" (topS 33) ["value"])
    (d34 : Has K mg "class_of" (topS 34) ["readings"])
    (d35 : Has K mg "told_point" (topS 35) ["cls"])
    (d36 : Has K mg "is_in" (topS 36) ["cls", "readings"])
    (d37 : Has K mg "next_class" (topS 37) ["cls"])
    (d38 : Has K mg "put_back" (topS 38) ["cls", "clocks"])
    (d40 : Has K mg "_law_dice" (topS 40) ["_law_script", "_law_spot"])
    (d41 : Has K mg "_law_roll" (topS 41) ["_law_dice_here", "_law_most"])
    (d42 : Has K mg "_law_pick" (topS 42) ["_law_dice_here", "_law_items"])
    (d43 : Has K mg "_law_shuffled" (topS 43) ["_law_dice_here", "_law_items"])
    (d44 : Has K mg "_law_fq_low" (topS 44) ["_law_top", "_law_bottom"])
    (d45 : Has K mg "_law_fq_sum" (topS 45) ["_law_one", "_law_other"])
    (d46 : Has K mg "_law_fq_times" (topS 46) ["_law_one", "_law_other"])
    (d47 : Has K mg "_law_fq_is_most" (topS 47) ["_law_one", "_law_other"])
    (d48 : Has K mg "_law_fq_later" (topS 48) ["_law_readings", "_law_wait"])
    (d49 : Has K mg "_law_cq_rest" (topS 49) ["_law_reading"])
    (d50 : HasC K mg "_law_cq_of" (topS 50) ["_law_readings"] c)
    (d51 : Has K mg "_law_cq_drawn" (topS 51) ["_law_dice_here", "_law_clocks"])
    (d52 : Has K mg "_law_cq_point" (topS 52) ["_law_dice_here", "_law_cls"])
    (d53 : Has K mg "_law_to_next" (topS 53) ["_law_readings"])
    (d54 : Has K mg "_law_ways" (topS 54) ["_law_dice_here", "_law_cls", "_law_readings"])
    (d55 : Has K mg "_law_back" (topS 55) ["_law_readings", "_law_lot"])
    (d56 : Has K mg "_law_right" (topS 56) ["_law_dice_here"])
    (F : C8.Fun K "law" "law" (topS 57) f fd) : FnOk P w K mg base C8.CX0 11 f fd ["_law_script"] (spLaw T K) := by
  obtain ⟨f7, fd7, D7, b7⟩ := d7
  have C7 := ok_is_whole (P := P) (w := w) (base := base)  D7 b7 
  obtain ⟨f8, fd8, D8, b8⟩ := d8
  have C8 := ok_is_short (P := P) (w := w) (base := base) GG D8 b8 C7
  obtain ⟨f9, fd9, D9, b9⟩ := d9
  have C9 := ok_is_from (P := P) (w := w) (base := base)  D9 b9 C7
  obtain ⟨f12, fd12, D12, b12⟩ := d12
  have C12 := ok_shared_in (P := P) (w := w) (base := base)  D12 b12 
  obtain ⟨f13, fd13, D13, b13⟩ := d13
  have C13 := ok_lowest (P := P) (w := w) (base := base)  D13 b13 C12
  obtain ⟨f14, fd14, D14, b14⟩ := d14
  have C14 := ok_whole_in (P := P) (w := w) (base := base)  D14 b14 
  obtain ⟨f15, fd15, D15, b15⟩ := d15
  have C15 := ok_is_fraction (P := P) (w := w) (base := base) GF D15 b15 C12 C8
  obtain ⟨f16, fd16, D16, b16⟩ := d16
  have C16 := ok_is_margin (P := P) (w := w) (base := base)  D16 b16 C15
  obtain ⟨f21, fd21, D21, b21⟩ := d21
  have C21 := ok_are_readings (P := P) (w := w) (base := base)  D21 b21 C16
  obtain ⟨f22, fd22, D22, b22⟩ := d22
  have C22 := ok_are_low (P := P) (w := w) (base := base) GN D22 b22 C21
  obtain ⟨f23, fd23, D23, b23⟩ := d23
  have C23 := ok_is_lot (P := P) (w := w) (base := base)  D23 b23 C9
  obtain ⟨f24, fd24, D24, b24⟩ := d24
  have C24 := ok_is_order (P := P) (w := w) (base := base)  D24 b24 C23
  obtain ⟨f25, fd25, D25, b25⟩ := d25
  have C25 := ok_is_class_of (P := P) (w := w) (base := base) GP GN D25 b25 C9 C24
  obtain ⟨f26, fd26, D26, b26⟩ := d26
  have C26 := ok_is_class_any (P := P) (w := w) (base := base) GP GM D26 b26 C25
  obtain ⟨f27, fd27, D27, b27⟩ := d27
  have C27 := ok_class_in (P := P) (w := w) (base := base)  D27 b27 C14
  obtain ⟨f28, fd28, D28, b28⟩ := d28
  have C28 := ok_point_of (P := P) (w := w) (base := base)  D28 b28 C13
  obtain ⟨f29, fd29, D29, b29⟩ := d29
  have C29 := ok_raised (P := P) (w := w) (base := base)  D29 b29 
  obtain ⟨f30, fd30, D30, b30⟩ := d30
  have C30 := ok_next_in (P := P) (w := w) (base := base) GN D30 b30 C29
  obtain ⟨f31, fd31, D31, b31⟩ := d31
  have C31 := ok_put_back_in (P := P) (w := w) (base := base)  D31 b31 
  obtain ⟨f32, fd32, D32, b32⟩ := d32
  have C32 := ok_require_low (P := P) (w := w) (base := base)  D32 b32 C22
  obtain ⟨f33, fd33, D33, b33⟩ := d33
  have C33 := ok_require_class (P := P) (w := w) (base := base)  D33 b33 C26
  obtain ⟨f34, fd34, D34, b34⟩ := d34
  have C34 := ok_class_of (P := P) (w := w) (base := base)  D34 b34 C32 C27
  obtain ⟨f35, fd35, D35, b35⟩ := d35
  have C35 := ok_told_point (P := P) (w := w) (base := base)  D35 b35 C33 C28
  obtain ⟨f36, fd36, D36, b36⟩ := d36
  have C36 := ok_is_in (P := P) (w := w) (base := base)  D36 b36 C33 C32 C27
  obtain ⟨f37, fd37, D37, b37⟩ := d37
  have C37 := ok_next_class (P := P) (w := w) (base := base)  D37 b37 C33 C30
  obtain ⟨f38, fd38, D38, b38⟩ := d38
  have C38 := ok_put_back (P := P) (w := w) (base := base)  D38 b38 C33 C23 C31
  obtain ⟨f40, fd40, D40, b40⟩ := d40
  have C40 := ok_dice (P := P) (w := w) (base := base)  D40 b40 
  obtain ⟨f41, fd41, D41, b41⟩ := d41
  have C41 := ok_roll (P := P) (w := w) (base := base) (T := T) D41 b41 
  obtain ⟨f42, fd42, D42, b42⟩ := d42
  have C42 := ok_pick (P := P) (w := w) (base := base)  D42 b42 C41
  obtain ⟨f43, fd43, D43, b43⟩ := d43
  have C43 := ok_shuffled (P := P) (w := w) (base := base)  D43 b43 C41
  obtain ⟨f44, fd44, D44, b44⟩ := d44
  have C44 := ok_fq_low (P := P) (w := w) (base := base)  D44 b44 
  obtain ⟨f45, fd45, D45, b45⟩ := d45
  have C45 := ok_fq_sum (P := P) (w := w) (base := base)  D45 b45 C44
  obtain ⟨f46, fd46, D46, b46⟩ := d46
  have C46 := ok_fq_times (P := P) (w := w) (base := base)  D46 b46 C44
  obtain ⟨f47, fd47, D47, b47⟩ := d47
  have C47 := ok_fq_is_most (P := P) (w := w) (base := base)  D47 b47 
  obtain ⟨f48, fd48, D48, b48⟩ := d48
  have C48 := ok_fq_later (P := P) (w := w) (base := base)  D48 b48 C45
  obtain ⟨f49, fd49, D49, b49⟩ := d49
  have C49 := ok_cq_rest (P := P) (w := w) (base := base)  D49 b49 C44
  obtain ⟨f50, fd50, D50, b50, hcode⟩ := d50
  have C50 := ok_cq_of (P := P) (w := w) (base := base) TB hcode hm hu D50 b50 C49
  obtain ⟨f51, fd51, D51, b51⟩ := d51
  have C51 := ok_cq_drawn (P := P) (w := w) (base := base)  D51 b51 C41 C42 C44
  obtain ⟨f52, fd52, D52, b52⟩ := d52
  have C52 := ok_cq_point (P := P) (w := w) (base := base)  D52 b52 C41 C43 C44
  obtain ⟨f53, fd53, D53, b53⟩ := d53
  have C53 := ok_to_next (P := P) (w := w) (base := base)  D53 b53 C49 C47 C44 C46
  obtain ⟨f54, fd54, D54, b54⟩ := d54
  have C54 := ok_ways (P := P) (w := w) (base := base)  D54 b54 C41 C37 C53 C50 C48 C46 C44 C36
  obtain ⟨f55, fd55, D55, b55⟩ := d55
  have C55 := ok_back (P := P) (w := w) (base := base)  D55 b55 
  obtain ⟨f56, fd56, D56, b56⟩ := d56
  have C56 := ok_right (P := P) (w := w) (base := base)  D56 b56 C41 C51 C50 C52 C35 C34 C54 C38 C55
  exact ok_law F C40 C56 C37 C38
theorem walk_ofTsX {l : PySem.W.OpenLaw} {n k : Nat} {q : Program} {loose : List Str} {XP : (Str → Option Value) → Heap → Prop} {YP : World → Heap → Prop} {d : DefRec} {K : Params → PySem.W.Frag} {CX : World → CXT} {x : Str}
    (most : l.most = some n) (small : n ≤ sizeLine) (nodef : d.params.defaults = []) (room : Room k callerA)
    (frag : ∀ (w : World) (h : Heap), YP w h → (K w.params).In h)
    (fact : ∀ (w : World) (mg : Str → Option Value) (fa : Addr) (h : Heap), YP w h → (K w.params).In h → h.Ns mainGlobals mg → mg d.name = some (.ref fa) → XP mg h → LamX.LawAtS l w (K w.params) (CX w) k n x mg fa h)
    (noEx : ∀ (w : World) (H : Hp) (s : Shared) (e : Value) (s' : Shared), CX w [] H s (fun _ _ _ => False) e s' → False) : PySem.W.WalkO q loose XP YP l.row.toRowW d [] (fun f vs => PySem.call f vs) :=
  Att.attach_callB most nodef fun w s0 s1 mg mb fa o pm cd doc a vs ns G Y _ _ _ named obj are few bits nog => by
    have inK := frag w _ Y
    obtain ⟨fd, cs, sp, empty, apart, heads, binds, asks, run⟩ := fact w mg fa _ Y inK G.T.g named G.X
    exact LamX.law_callTs inK G.T.g G.T.b G.T.builtins G.T.nolimit nog empty apart heads G.T.bmain obj are (Nat.le_trans few small) room run binds (fun H hH hS => asks H a ns few bits hH hS) fun H e s' => noEx w H s1 e s'

theorem all_mk {l : PySem.W.OpenLaw} {w : World} {K : PySem.W.Frag} {h : Heap} {mg : Str → Option Value} {fa f1 c Pt : Addr} (X : K.In h) (G : h.Ns mainGlobals mg) (hfa : mg "law" = some (.ref fa)) (GG : GI mg "GREATEST" GREAT)
    {od1 an1 : Option Addr} {sl1 : Array (Option Value)} {oc1 kV1 dc1 pm1 cd1 ct1 : Value}
    (a1 : PySem.W.nsIn K mainGlobals "law" = some (some (.ref f1))) (l1 : K.lookup f1 = some ⟨oc1, od1, .func (PySem.W.fnOf "law" "law" (C8.fnArgs (topS 57)) (C8.fnBody (topS 57)) (C8.fnScope (topS 57)) .none kV1 dc1 pm1 an1 cd1 ct1), sl1⟩) (c1 : PySem.W.codeIn K cd1 "law" = true)
    (GF : GI mg "PAIR_fractions" 2) (GN : GI mg "MOST_NUMBER" 4) (GM : GI mg "MOST_CLOCKS" 3) (GP : GI mg "PAIR_classes" 2)
    (z_len : PySem.W.nsIn K mainGlobals "len" = some none)
    (z_isinstance : PySem.W.nsIn K mainGlobals "isinstance" = some none)
    (z_all : PySem.W.nsIn K mainGlobals "all" = some none)
    (z_any : PySem.W.nsIn K mainGlobals "any" = some none)
    (z_sorted : PySem.W.nsIn K mainGlobals "sorted" = some none)
    (z_list : PySem.W.nsIn K mainGlobals "list" = some none)
    (z_tuple : PySem.W.nsIn K mainGlobals "tuple" = some none)
    (z_range : PySem.W.nsIn K mainGlobals "range" = some none)
    (z_zip : PySem.W.nsIn K mainGlobals "zip" = some none)
    (z_enumerate : PySem.W.nsIn K mainGlobals "enumerate" = some none)
    (z_int : PySem.W.nsIn K mainGlobals "int" = some none)
    (z_bool : PySem.W.nsIn K mainGlobals "bool" = some none)
    (z_abs : PySem.W.nsIn K mainGlobals "abs" = some none)
    (z_max : PySem.W.nsIn K mainGlobals "max" = some none)
    (z_min : PySem.W.nsIn K mainGlobals "min" = some none)
    (d7 : Has K mg "is_whole" (topS 7) ["value"])
    (d8 : Has K mg "is_short" (topS 8) ["value"])
    (d9 : Has K mg "is_from" (topS 9) ["value", "least", "most"])
    (d12 : Has K mg "shared_in" (topS 12) ["one", "other"])
    (d13 : Has K mg "lowest" (topS 13) ["top", "bottom"])
    (d14 : Has K mg "whole_in" (topS 14) ["one"])
    (d15 : Has K mg "is_fraction" (topS 15) ["value"])
    (d16 : Has K mg "is_margin" (topS 16) ["value"])
    (d21 : Has K mg "are_readings" (topS 21) ["value", "clocks"])
    (d22 : Has K mg "are_low" (topS 22) ["value", "clocks"])
    (d23 : Has K mg "is_lot" (topS 23) ["clocks", "value"])
    (d24 : Has K mg "is_order" (topS 24) ["clocks", "value"])
    (d25 : Has K mg "is_class_of" (topS 25) ["clocks", "value"])
    (d26 : Has K mg "is_class_any" (topS 26) ["value"])
    (d27 : Has K mg "class_in" (topS 27) ["readings"])
    (d28 : Has K mg "point_of" (topS 28) ["cls"])
    (d29 : Has K mg "raised" (topS 29) ["wholes", "clocks"])
    (d30 : Has K mg "next_in" (topS 30) ["cls"])
    (d31 : Has K mg "put_back_in" (topS 31) ["cls", "clocks"])
    (d32 : Has K mg "require_low" (topS 32) ["value", "clocks"])
    (d33 : Has K mg "require_class" (topS 33) ["value"])
    (d34 : Has K mg "class_of" (topS 34) ["readings"])
    (d35 : Has K mg "told_point" (topS 35) ["cls"])
    (d36 : Has K mg "is_in" (topS 36) ["cls", "readings"])
    (d37 : Has K mg "next_class" (topS 37) ["cls"])
    (d38 : Has K mg "put_back" (topS 38) ["cls", "clocks"])
    (d40 : Has K mg "_law_dice" (topS 40) ["_law_script", "_law_spot"])
    (d41 : Has K mg "_law_roll" (topS 41) ["_law_dice_here", "_law_most"])
    (d42 : Has K mg "_law_pick" (topS 42) ["_law_dice_here", "_law_items"])
    (d43 : Has K mg "_law_shuffled" (topS 43) ["_law_dice_here", "_law_items"])
    (d44 : Has K mg "_law_fq_low" (topS 44) ["_law_top", "_law_bottom"])
    (d45 : Has K mg "_law_fq_sum" (topS 45) ["_law_one", "_law_other"])
    (d46 : Has K mg "_law_fq_times" (topS 46) ["_law_one", "_law_other"])
    (d47 : Has K mg "_law_fq_is_most" (topS 47) ["_law_one", "_law_other"])
    (d48 : Has K mg "_law_fq_later" (topS 48) ["_law_readings", "_law_wait"])
    (d49 : Has K mg "_law_cq_rest" (topS 49) ["_law_reading"])
    (d50 : HasC K mg "_law_cq_of" (topS 50) ["_law_readings"] c)
    (d51 : Has K mg "_law_cq_drawn" (topS 51) ["_law_dice_here", "_law_clocks"])
    (d52 : Has K mg "_law_cq_point" (topS 52) ["_law_dice_here", "_law_cls"])
    (d53 : Has K mg "_law_to_next" (topS 53) ["_law_readings"])
    (d54 : Has K mg "_law_ways" (topS 54) ["_law_dice_here", "_law_cls", "_law_readings"])
    (d55 : Has K mg "_law_back" (topS 55) ["_law_readings", "_law_lot"])
    (d56 : Has K mg "_law_right" (topS 56) ["_law_dice_here"])
    (hd : PySem.W.codeHdIn K c Pt = true) (nT : K.lookup Pt = none) (hT : h.get? Pt = some (PySem.W.tabObj #[])) : LamX.LawAtS l w K C8.CX0 11 63 "_law_script" mg fa h := by
  have e := hfa.symm.trans (PySem.W.mg_of X G a1)
  cases e
  have B : Bl mg := ⟨PySem.W.mg_none_of X G z_len, PySem.W.mg_none_of X G z_isinstance, PySem.W.mg_none_of X G z_all, PySem.W.mg_none_of X G z_any, PySem.W.mg_none_of X G z_sorted, PySem.W.mg_none_of X G z_list, PySem.W.mg_none_of X G z_tuple, PySem.W.mg_none_of X G z_range, PySem.W.mg_none_of X G z_zip, PySem.W.mg_none_of X G z_enumerate, PySem.W.mg_none_of X G z_int, PySem.W.mg_none_of X G z_bool, PySem.W.mg_none_of X G z_abs, PySem.W.mg_none_of X G z_max, PySem.W.mg_none_of X G z_min⟩
  refine ⟨PySem.W.fnOf "law" "law" (C8.fnArgs (topS 57)) (C8.fnBody (topS 57)) (C8.fnScope (topS 57)) .none kV1 dc1 pm1 an1 cd1 ct1, [(c, Pt)], spLaw [(Pt, lamN)] K, fun p hp => ?_, fun p hp => ?_, fun p hp => ?_, fun s v => .of_eq rfl, fun H a ns hl _ hH hS => ?_, fun base hK hG hTB => ?_⟩
  · exact List.mem_singleton.mp hp ▸ hT
  · exact List.mem_singleton.mp hp ▸ nT
  · exact List.mem_singleton.mp hp ▸ PySem.W.codeHd_of_K X hd
  · refine ⟨ns, .cons (.lst hS (dpa_ints ns)) .nil, by omega, fun p hp => ?_, fun _ => rfl⟩
    rw [List.mem_singleton.mp hp]
    exact LamX.TabS.nil (hH (c, Pt) (List.mem_singleton.mpr rfl))
  · exact all_fn GG GF GN GM GP (hTB (c, Pt) (List.mem_singleton.mpr rfl)) (List.mem_singleton.mpr rfl) (fun p hp _ => by rw [List.mem_singleton.mp hp]) d7 d8 d9 d12 d13 d14 d15 d16 d21 d22 d23 d24 d25 d26 d27 d28 d29 d30 d31 d32 d33 d34 d35 d36 d37 d38 d40 d41 d42 d43 d44 d45 d46 d47 d48 d49 d50 d51 d52 d53 d54 d55 d56 ⟨oc1, od1, .none, kV1, dc1, pm1, an1, cd1, ct1, sl1, rfl, l1, c1⟩
end K9

open PySem PySem.W PyProof.Rows
set_option maxHeartbeats 0 in
theorem PySem.Challenge.cw_anymargin_k09_whole_next_classes_and_put_holds : PySem.Challenge.rw_anymargin_k09_whole_next_classes_and_put.Holds := by
  w_on; o_law; k_head; (case hw => w_witness2)
  k_fill
  refine K9.walk_ofTsX (l := PySem.Challenge.rw_anymargin_k09_whole_next_classes_and_put) (n := 63) (k := 11) (x := "_law_script") (CX := fun _ => C8.CX0) rfl (by decide) rfl ⟨rfl, by decide, by decide⟩ (fun w h Y => km_in_of Y) ?F (fun _ _ _ _ _ h => h)
  case F =>
    intro w mg fa h Y KX G hmg hXP
    have HT := km_tabs_of Y
    have GG : KD.GI mg "GREATEST" K9.GREAT := by
      obtain ⟨v, e1, e2⟩ := hXP.2.val _ (List.mem_singleton.mpr rfl)
      cases e2
      exact ⟨_, e1, _, rfl⟩
    refine' K9.all_mk (Pt := 297) KX G hmg GG ?a1 ?l1 ?c1 ?GF ?GN ?GM ?GP ?z_len ?z_isinstance ?z_all ?z_any ?z_sorted ?z_list ?z_tuple ?z_range ?z_zip ?z_enumerate ?z_int ?z_bool ?z_abs ?z_max ?z_min ?d7 ?d8 ?d9 ?d12 ?d13 ?d14 ?d15 ?d16 ?d21 ?d22 ?d23 ?d24 ?d25 ?d26 ?d27 ?d28 ?d29 ?d30 ?d31 ?d32 ?d33 ?d34 ?d35 ?d36 ?d37 ?d38 ?d40 ?d41 ?d42 ?d43 ?d44 ?d45 ?d46 ?d47 ?d48 ?d49 ?d50 ?d51 ?d52 ?d53 ?d54 ?d55 ?d56 ?hd ?nT ?hT
    (case a1 => k_is)
    (case l1 => k_is)
    (case c1 => k_is)
    (case GF => (refine' K9.gi_mk KX G ?a; (case a => k_is)))
    (case GN => (refine' K9.gi_mk KX G ?a; (case a => k_is)))
    (case GM => (refine' K9.gi_mk KX G ?a; (case a => k_is)))
    (case GP => (refine' K9.gi_mk KX G ?a; (case a => k_is)))
    (case z_len => k_is)
    (case z_isinstance => k_is)
    (case z_all => k_is)
    (case z_any => k_is)
    (case z_sorted => k_is)
    (case z_list => k_is)
    (case z_tuple => k_is)
    (case z_range => k_is)
    (case z_zip => k_is)
    (case z_enumerate => k_is)
    (case z_int => k_is)
    (case z_bool => k_is)
    (case z_abs => k_is)
    (case z_max => k_is)
    (case z_min => k_is)
    (case d7 => (refine' K9.has_mk KX G (fun _ _ _ _ _ _ us hl => match us, hl with | [_], _ => rfl) ?a ?l ?c ?k; (case a => k_is); (case l => k_is); (case c => k_is); (case k => k_is)))
    (case d8 => (refine' K9.has_mk KX G (fun _ _ _ _ _ _ us hl => match us, hl with | [_], _ => rfl) ?a ?l ?c ?k; (case a => k_is); (case l => k_is); (case c => k_is); (case k => k_is)))
    (case d9 => (refine' K9.has_mk KX G (fun _ _ _ _ _ _ us hl => match us, hl with | [_, _, _], _ => rfl) ?a ?l ?c ?k; (case a => k_is); (case l => k_is); (case c => k_is); (case k => k_is)))
    (case d12 => (refine' K9.has_mk KX G (fun _ _ _ _ _ _ us hl => match us, hl with | [_, _], _ => rfl) ?a ?l ?c ?k; (case a => k_is); (case l => k_is); (case c => k_is); (case k => k_is)))
    (case d13 => (refine' K9.has_mk KX G (fun _ _ _ _ _ _ us hl => match us, hl with | [_, _], _ => rfl) ?a ?l ?c ?k; (case a => k_is); (case l => k_is); (case c => k_is); (case k => k_is)))
    (case d14 => (refine' K9.has_mk KX G (fun _ _ _ _ _ _ us hl => match us, hl with | [_], _ => rfl) ?a ?l ?c ?k; (case a => k_is); (case l => k_is); (case c => k_is); (case k => k_is)))
    (case d15 => (refine' K9.has_mk KX G (fun _ _ _ _ _ _ us hl => match us, hl with | [_], _ => rfl) ?a ?l ?c ?k; (case a => k_is); (case l => k_is); (case c => k_is); (case k => k_is)))
    (case d16 => (refine' K9.has_mk KX G (fun _ _ _ _ _ _ us hl => match us, hl with | [_], _ => rfl) ?a ?l ?c ?k; (case a => k_is); (case l => k_is); (case c => k_is); (case k => k_is)))
    (case d21 => (refine' K9.has_mk KX G (fun _ _ _ _ _ _ us hl => match us, hl with | [_, _], _ => rfl) ?a ?l ?c ?k; (case a => k_is); (case l => k_is); (case c => k_is); (case k => k_is)))
    (case d22 => (refine' K9.has_mk KX G (fun _ _ _ _ _ _ us hl => match us, hl with | [_, _], _ => rfl) ?a ?l ?c ?k; (case a => k_is); (case l => k_is); (case c => k_is); (case k => k_is)))
    (case d23 => (refine' K9.has_mk KX G (fun _ _ _ _ _ _ us hl => match us, hl with | [_, _], _ => rfl) ?a ?l ?c ?k; (case a => k_is); (case l => k_is); (case c => k_is); (case k => k_is)))
    (case d24 => (refine' K9.has_mk KX G (fun _ _ _ _ _ _ us hl => match us, hl with | [_, _], _ => rfl) ?a ?l ?c ?k; (case a => k_is); (case l => k_is); (case c => k_is); (case k => k_is)))
    (case d25 => (refine' K9.has_mk KX G (fun _ _ _ _ _ _ us hl => match us, hl with | [_, _], _ => rfl) ?a ?l ?c ?k; (case a => k_is); (case l => k_is); (case c => k_is); (case k => k_is)))
    (case d26 => (refine' K9.has_mk KX G (fun _ _ _ _ _ _ us hl => match us, hl with | [_], _ => rfl) ?a ?l ?c ?k; (case a => k_is); (case l => k_is); (case c => k_is); (case k => k_is)))
    (case d27 => (refine' K9.has_mk KX G (fun _ _ _ _ _ _ us hl => match us, hl with | [_], _ => rfl) ?a ?l ?c ?k; (case a => k_is); (case l => k_is); (case c => k_is); (case k => k_is)))
    (case d28 => (refine' K9.has_mk KX G (fun _ _ _ _ _ _ us hl => match us, hl with | [_], _ => rfl) ?a ?l ?c ?k; (case a => k_is); (case l => k_is); (case c => k_is); (case k => k_is)))
    (case d29 => (refine' K9.has_mk KX G (fun _ _ _ _ _ _ us hl => match us, hl with | [_, _], _ => rfl) ?a ?l ?c ?k; (case a => k_is); (case l => k_is); (case c => k_is); (case k => k_is)))
    (case d30 => (refine' K9.has_mk KX G (fun _ _ _ _ _ _ us hl => match us, hl with | [_], _ => rfl) ?a ?l ?c ?k; (case a => k_is); (case l => k_is); (case c => k_is); (case k => k_is)))
    (case d31 => (refine' K9.has_mk KX G (fun _ _ _ _ _ _ us hl => match us, hl with | [_, _], _ => rfl) ?a ?l ?c ?k; (case a => k_is); (case l => k_is); (case c => k_is); (case k => k_is)))
    (case d32 => (refine' K9.has_mk KX G (fun _ _ _ _ _ _ us hl => match us, hl with | [_, _], _ => rfl) ?a ?l ?c ?k; (case a => k_is); (case l => k_is); (case c => k_is); (case k => k_is)))
    (case d33 => (refine' K9.has_mk KX G (fun _ _ _ _ _ _ us hl => match us, hl with | [_], _ => rfl) ?a ?l ?c ?k; (case a => k_is); (case l => k_is); (case c => k_is); (case k => k_is)))
    (case d34 => (refine' K9.has_mk KX G (fun _ _ _ _ _ _ us hl => match us, hl with | [_], _ => rfl) ?a ?l ?c ?k; (case a => k_is); (case l => k_is); (case c => k_is); (case k => k_is)))
    (case d35 => (refine' K9.has_mk KX G (fun _ _ _ _ _ _ us hl => match us, hl with | [_], _ => rfl) ?a ?l ?c ?k; (case a => k_is); (case l => k_is); (case c => k_is); (case k => k_is)))
    (case d36 => (refine' K9.has_mk KX G (fun _ _ _ _ _ _ us hl => match us, hl with | [_, _], _ => rfl) ?a ?l ?c ?k; (case a => k_is); (case l => k_is); (case c => k_is); (case k => k_is)))
    (case d37 => (refine' K9.has_mk KX G (fun _ _ _ _ _ _ us hl => match us, hl with | [_], _ => rfl) ?a ?l ?c ?k; (case a => k_is); (case l => k_is); (case c => k_is); (case k => k_is)))
    (case d38 => (refine' K9.has_mk KX G (fun _ _ _ _ _ _ us hl => match us, hl with | [_, _], _ => rfl) ?a ?l ?c ?k; (case a => k_is); (case l => k_is); (case c => k_is); (case k => k_is)))
    (case d40 => (refine' K9.has_mk KX G (fun _ _ _ _ _ _ us hl => match us, hl with | [_, _], _ => rfl) ?a ?l ?c ?k; (case a => k_is); (case l => k_is); (case c => k_is); (case k => k_is)))
    (case d41 => (refine' K9.has_mk KX G (fun _ _ _ _ _ _ us hl => match us, hl with | [_, _], _ => rfl) ?a ?l ?c ?k; (case a => k_is); (case l => k_is); (case c => k_is); (case k => k_is)))
    (case d42 => (refine' K9.has_mk KX G (fun _ _ _ _ _ _ us hl => match us, hl with | [_, _], _ => rfl) ?a ?l ?c ?k; (case a => k_is); (case l => k_is); (case c => k_is); (case k => k_is)))
    (case d43 => (refine' K9.has_mk KX G (fun _ _ _ _ _ _ us hl => match us, hl with | [_, _], _ => rfl) ?a ?l ?c ?k; (case a => k_is); (case l => k_is); (case c => k_is); (case k => k_is)))
    (case d44 => (refine' K9.has_mk KX G (fun _ _ _ _ _ _ us hl => match us, hl with | [_, _], _ => rfl) ?a ?l ?c ?k; (case a => k_is); (case l => k_is); (case c => k_is); (case k => k_is)))
    (case d45 => (refine' K9.has_mk KX G (fun _ _ _ _ _ _ us hl => match us, hl with | [_, _], _ => rfl) ?a ?l ?c ?k; (case a => k_is); (case l => k_is); (case c => k_is); (case k => k_is)))
    (case d46 => (refine' K9.has_mk KX G (fun _ _ _ _ _ _ us hl => match us, hl with | [_, _], _ => rfl) ?a ?l ?c ?k; (case a => k_is); (case l => k_is); (case c => k_is); (case k => k_is)))
    (case d47 => (refine' K9.has_mk KX G (fun _ _ _ _ _ _ us hl => match us, hl with | [_, _], _ => rfl) ?a ?l ?c ?k; (case a => k_is); (case l => k_is); (case c => k_is); (case k => k_is)))
    (case d48 => (refine' K9.has_mk KX G (fun _ _ _ _ _ _ us hl => match us, hl with | [_, _], _ => rfl) ?a ?l ?c ?k; (case a => k_is); (case l => k_is); (case c => k_is); (case k => k_is)))
    (case d49 => (refine' K9.has_mk KX G (fun _ _ _ _ _ _ us hl => match us, hl with | [_], _ => rfl) ?a ?l ?c ?k; (case a => k_is); (case l => k_is); (case c => k_is); (case k => k_is)))
    (case d50 => (refine' K9.hasC_mk KX G (fun _ _ _ _ _ _ us hl => match us, hl with | [_], _ => rfl) ?a ?l ?c ?k; (case a => k_is); (case l => k_is); (case c => k_is); (case k => k_is)))
    (case d51 => (refine' K9.has_mk KX G (fun _ _ _ _ _ _ us hl => match us, hl with | [_, _], _ => rfl) ?a ?l ?c ?k; (case a => k_is); (case l => k_is); (case c => k_is); (case k => k_is)))
    (case d52 => (refine' K9.has_mk KX G (fun _ _ _ _ _ _ us hl => match us, hl with | [_, _], _ => rfl) ?a ?l ?c ?k; (case a => k_is); (case l => k_is); (case c => k_is); (case k => k_is)))
    (case d53 => (refine' K9.has_mk KX G (fun _ _ _ _ _ _ us hl => match us, hl with | [_], _ => rfl) ?a ?l ?c ?k; (case a => k_is); (case l => k_is); (case c => k_is); (case k => k_is)))
    (case d54 => (refine' K9.has_mk KX G (fun _ _ _ _ _ _ us hl => match us, hl with | [_, _, _], _ => rfl) ?a ?l ?c ?k; (case a => k_is); (case l => k_is); (case c => k_is); (case k => k_is)))
    (case d55 => (refine' K9.has_mk KX G (fun _ _ _ _ _ _ us hl => match us, hl with | [_, _], _ => rfl) ?a ?l ?c ?k; (case a => k_is); (case l => k_is); (case c => k_is); (case k => k_is)))
    (case d56 => (refine' K9.has_mk KX G (fun _ _ _ _ _ _ us hl => match us, hl with | [_], _ => rfl) ?a ?l ?c ?k; (case a => k_is); (case l => k_is); (case c => k_is); (case k => k_is)))
    (case hd => first | k_is | decide +kernel | rfl)
    (case nT => first | kernel_rfl | rfl | decide +kernel)
    (case hT => exact HT _ (by decide))
