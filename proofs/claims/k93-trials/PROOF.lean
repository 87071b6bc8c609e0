import PyProof.Rows.All
import Wide.All
import OpenK.AllK
import Wide.FinOn
import KE.KStateDown
import HandS.ForExc
import HandS.Comp
import HandS.Dict
import HandS.Iter
import HandS.Text
import HandS.Walk
import HandS.Zip
import HandS.IsInst
import HandS.TupMul
import HandS.TupAny
import HandS.TupLe
import HandS.Star
import HandS.Wide
import HandS.Style
import HandS.Property
import HandS.Conv
import HandS.More
import PySem.Challenge.RW_booklimits_k93_whole_trials_and_copies
import KE.KTupSum
import KE.GoesMore
import HandS.SortInts
import HandS.Rev
import HandS.Lambda
import HandS.Small
import HandS.WordsExc
import PyProof.Rows.ReprShort
import PyProof.Rows.StrMeet
import PyProof.ReprRoads
import OpenK.KOps
import PyProof.InstNe
import HandS.OwnEq
import KE.KWithOwn
import HandS.TryMany
import HandS.ExcField
import HandS.ExcInit
import KE.KExcSuper
import KE.KSuper
import HandS.ExcSuper
import HandS.HotCalls
import HandS.TryOnly
import KE.DataCmp
import HandS.HeadWalk
import HandS.HeadHook4
import HandS.HeadNt
import HandS.NestedK
import HandS.Head0
import HandS.Head1
import HandS.Head2
import HandS.HeadEnd
section
set_option Elab.async false
set_option linter.all false
set_option maxRecDepth 100000
set_option maxHeartbeats 4000000
/-! BLa: semantic readings over the hand layer; data; pure evaluation. -/
namespace BL
open PySem PySem.Spec PyProof.Rows L2

/-! ### semantic readings -/
section
variable {X : Cx} {e : Expr} {es : List Expr} {σ : L2.St} {H : Hp}
structure tEr (X : Cx) (e : Expr) (σ : L2.St) (H : Hp) (Q : VK) : Prop where
  run : ∀ pins s, Inv X pins σ H s → wpAny (model X.prog X.w) X.A (eval e X.env) (EP X pins σ Q) X.xe s
def tE (X : Cx) (e : Expr) : TE := fun σ H Q => tEr X e σ H Q
structure tTr (X : Cx) (e : Expr) (σ : L2.St) (H : Hp) (Q : Bool → Hp → Prop) : Prop where
  run : ∀ pins s, Inv X pins σ H s → wpAny (model X.prog X.w) X.A (isTrue e X.env (eval e X.env)) (TP X pins σ Q) X.xe s
def tT (X : Cx) (e : Expr) : TT := fun σ H Q => tTr X e σ H Q
structure tWr (X : Cx) (e : Expr) (σ : L2.St) (H : Hp) (Q : Bool → Hp → Prop) : Prop where
  run : ∀ wh pins s, Inv X pins σ H s → wpAny (model X.prog X.w) X.A (isTrue e X.env wh) (TP X pins σ Q) X.xe s
def tW (X : Cx) (e : Expr) : TT := fun σ H Q => tWr X e σ H Q
structure tAr (X : Cx) (es : List Expr) (σ : L2.St) (H : Hp) (Q : List V → Hp → Prop) : Prop where
  run : ∀ (pos : Pos) pins s, Inv X pins σ H s → wpAny (model X.prog X.w) X.A (spliced (backTo pos (starEach es X.env))) (AP X pins σ Q) X.xe s
def tA (X : Cx) (es : List Expr) : TA := fun σ H Q => tAr X es σ H Q
structure tSr (X : Cx) (st : Stmt) (D : Ends) (σ : L2.St) (H : Hp) : Prop where
  run : ∀ pins s, Inv X pins σ H s → wpAny (model X.prog X.w) X.A (exec st X.env) (SP X pins D) X.xe s
def tS (X : Cx) (st : Stmt) : TS := fun D σ H => tSr X st D σ H
structure tBr (X : Cx) (sts : List Stmt) (D : Ends) (σ : L2.St) (H : Hp) : Prop where
  run : ∀ pins s, Inv X pins σ H s → wpAny (model X.prog X.w) X.A (execs sts X.env) (SP X pins D) X.xe s
def tB (X : Cx) (sts : List Stmt) : TS := fun D σ H => tBr X sts D σ H
structure tGr (X : Cx) (tg : Expr) (v : V) (σ : L2.St) (H : Hp) (Q : L2.St → Hp → Prop) : Prop where
  run : ∀ pins s u, Inv X pins σ H s → RelV v u → wpAny (model X.prog X.w) X.A (assign tg X.env u) (fun _ s' => ∃ σ' H', Inv X pins σ' H' s' ∧ Q σ' H') X.xe s
def tG (X : Cx) (tg : Expr) : TG := fun v σ H Q => tGr X tg v σ H Q
structure tIr (X : Cx) (tg it : Expr) (σ : L2.St) (H : Hp) (R : It → Hp → Prop) : Prop where
  run : ∀ pins s, Inv X pins σ H s → wpAny (model X.prog X.w) X.A (eval it X.env) (fun v s1 => wpAny (model X.prog X.w) X.A (pyIter v) (PIE X pins σ tg R) X.xe s1) X.xe s
def tI (X : Cx) (tg it : Expr) : TI := fun σ H R => tIr X tg it σ H R
theorem pe_sem : PE X e (tE X e) := ⟨fun pins s _ _ _ I h => h.run pins s I⟩
theorem pt_sem : PT X e (tT X e) := ⟨fun pins s _ _ _ I h => h.run pins s I⟩
theorem pw_sem : PW X e (tW X e) := ⟨fun wh pins s _ _ _ I h => h.run wh pins s I⟩
theorem pa_sem : PA X es (tA X es) := ⟨fun pos pins s _ _ _ I h => h.run pos pins s I⟩
theorem ps_sem {st : Stmt} : PS X st (tS X st) := ⟨fun pins s _ _ _ I h => h.run pins s I⟩
theorem pb_sem {sts : List Stmt} : PSs X sts (tB X sts) := ⟨fun pins s _ _ _ I h => h.run pins s I⟩
theorem pg_sem {tg : Expr} : PG X tg (tG X tg) := ⟨fun pins s _ _ _ u _ I r h => h.run pins s u I r⟩
theorem pi_sem {tg it : Expr} : PI X tg it (tI X tg it) := ⟨fun pins s _ _ _ I h => h.run pins s I⟩
theorem PEto {t : TE} {Q : VK} (h : PE X e t) (q : t σ H Q) : tE X e σ H Q := ⟨fun pins s I => h.run pins s σ H Q I q⟩
theorem PTto {t : TT} {Q : Bool → Hp → Prop} (h : PT X e t) (q : t σ H Q) : tT X e σ H Q := ⟨fun pins s I => h.run pins s σ H Q I q⟩
theorem PWto {t : TT} {Q : Bool → Hp → Prop} (h : PW X e t) (q : t σ H Q) : tW X e σ H Q := ⟨fun wh pins s I => h.run wh pins s σ H Q I q⟩
theorem PAto {t : TA} {Q : List V → Hp → Prop} (h : PA X es t) (q : t σ H Q) : tA X es σ H Q := ⟨fun pos pins s I => h.run pos pins s σ H Q I q⟩
theorem PSto {st : Stmt} {t : TS} {D : Ends} (h : PS X st t) (q : t D σ H) : tS X st D σ H := ⟨fun pins s I => h.run pins s σ H D I q⟩
theorem PBto {sts : List Stmt} {t : TS} {D : Ends} (h : PSs X sts t) (q : t D σ H) : tB X sts D σ H := ⟨fun pins s I => h.run pins s σ H D I q⟩
theorem PGto {tg : Expr} {t : TG} {v : V} {Q : L2.St → Hp → Prop} (h : PG X tg t) (q : t v σ H Q) : tG X tg v σ H Q := ⟨fun pins s u I r => h.run pins s σ H v u Q I r q⟩
theorem PIto {tg it : Expr} {t : TI} {R : It → Hp → Prop} (h : PI X tg it t) (q : t σ H R) : tI X tg it σ H R := ⟨fun pins s I => h.run pins s σ H R I q⟩
theorem tT_of_tW {Q : Bool → Hp → Prop} (h : tW X e σ H Q) : tT X e σ H Q := ⟨fun pins s I => h.run _ pins s I⟩
theorem tE_mono {Q Q' : VK} (h : tE X e σ H Q) (k : ∀ v H', Q v H' → Q' v H') : tE X e σ H Q' := ⟨fun pins s I => wpAny_mono (h.run pins s I) (fun _ _ ⟨v, H', I', r, q⟩ => ⟨v, H', I', r, k _ _ q⟩) fun _ _ z => z⟩
theorem tT_mono {Q Q' : Bool → Hp → Prop} (h : tT X e σ H Q) (k : ∀ v H', Q v H' → Q' v H') : tT X e σ H Q' := ⟨fun pins s I => wpAny_mono (h.run pins s I) (fun _ _ ⟨H', I', q⟩ => ⟨H', I', k _ _ q⟩) fun _ _ z => z⟩
end

/-! ### data -/
theorem same_tup {K : PySem.W.Frag} {H H' : Hp} {a : Addr} {xs : List V} (e : Same H H') (h : SqT K H a xs) : SqT K H' a xs := by
  rcases h with (h | ⟨o, h⟩) | h
  · exact .inl (.inl (e _ _ h))
  · exact .inl (.inr ⟨o, e _ _ h⟩)
  · exact .inr h
mutual
theorem dp_up {K : PySem.W.Frag} {H H' : Hp} (e : Same H H') : ∀ {v : V} {d : PyData}, Dp K H v d → Dp K H' v d
  | _, _, .non => .non
  | _, _, .bl b => .bl b
  | _, _, .int i => .int i
  | _, _, .str x => .str x
  | _, _, .lst h r => .lst (e.seq h) (dps_up e r)
  | _, _, .tup h r => .tup (same_tup e h) (dps_up e r)
theorem dps_up {K : PySem.W.Frag} {H H' : Hp} (e : Same H H') : ∀ {vs : List V} {ds : List PyData}, DpAll K H vs ds → DpAll K H' vs ds
  | _, _, .nil => .nil
  | _, _, .cons h r => .cons (dp_up e h) (dps_up e r)
end
section
variable {K : PySem.W.Frag} {H H' : Hp} {v : V} {xs ys : List V} {ds es : List PyData}
theorem dp_int {i : Int} (h : Dp K H v (.int i)) : v = .int i := by cases h; rfl
theorem dp_bl {b : Bool} (h : Dp K H v (.bool b)) : v = .bl b := by cases h; rfl
theorem dp_str {x : Str} (h : Dp K H v (.str x)) : v = .str x := by cases h; rfl
theorem dp_non (h : Dp K H v .none) : v = .non := by cases h; rfl
theorem dp_tup (h : Dp K H v (.tuple ds)) : ∃ a xs, v = .ref a ∧ SqT K H a xs ∧ DpAll K H xs ds := by
  cases h with | tup h r => exact ⟨_, _, rfl, h, r⟩
theorem dp_lst (h : Dp K H v (.list ds)) : ∃ a xs, v = .ref a ∧ SqL K H a xs ∧ DpAll K H xs ds := by
  cases h with | lst h r => exact ⟨_, _, rfl, h, r⟩
theorem dps_len : ∀ {xs : List V} {ds : List PyData}, DpAll K H xs ds → xs.length = ds.length
  | _, _, .nil => rfl
  | _, _, .cons _ r => by rw [List.length_cons, List.length_cons, dps_len r]
theorem dps_get : ∀ {xs : List V} {ds : List PyData} {i : Nat} {d : PyData}, DpAll K H xs ds → ds[i]? = some d → ∃ v, xs[i]? = some v ∧ Dp K H v d
  | _, _, _, _, .nil, e => by simp at e
  | _, _, 0, _, .cons h _, e => by simp at e; subst e; exact ⟨_, rfl, h⟩
  | _, _, i + 1, _, .cons _ r, e => by
    obtain ⟨v, h1, h2⟩ := dps_get (i := i) r (by simpa using e)
    exact ⟨v, by simpa using h1, h2⟩
theorem dps_getV : ∀ {xs : List V} {ds : List PyData} {i : Nat} {v : V}, DpAll K H xs ds → xs[i]? = some v → ∃ d, ds[i]? = some d ∧ Dp K H v d
  | _, _, _, _, .nil, e => by simp at e
  | _, _, 0, _, .cons h _, e => by simp at e; subst e; exact ⟨_, rfl, h⟩
  | _, _, i + 1, _, .cons _ r, e => by
    obtain ⟨v, h1, h2⟩ := dps_getV (i := i) r (by simpa using e)
    exact ⟨v, by simpa using h1, h2⟩
theorem dps_app : ∀ {xs : List V} {ds : List PyData}, DpAll K H xs ds → DpAll K H ys es → DpAll K H (xs ++ ys) (ds ++ es)
  | _, _, .nil, q => q
  | _, _, .cons h r, q => .cons h (dps_app r q)
theorem dps_drop : ∀ {xs : List V} {ds : List PyData} (n : Nat), DpAll K H xs ds → DpAll K H (xs.drop n) (ds.drop n)
  | _, _, 0, r => r
  | _, _, _ + 1, .nil => .nil
  | _, _, n + 1, .cons _ r => dps_drop n r
theorem dps_take : ∀ {xs : List V} {ds : List PyData} (n : Nat), DpAll K H xs ds → DpAll K H (xs.take n) (ds.take n)
  | _, _, 0, _ => .nil
  | _, _, _ + 1, .nil => .nil
  | _, _, n + 1, .cons h r => .cons h (dps_take n r)
theorem dps_atI {i : Int} {d : PyData} (r : DpAll K H xs ds) (h : atI ds i = some d) : ∃ v, atI xs i = some v ∧ Dp K H v d := by
  unfold atI at h ⊢
  rw [dps_len r]
  cases e : ixN ds.length i with
  | none => rw [e] at h; cases h
  | some j =>
    rw [e] at h
    exact dps_get r h
theorem dps_ints : ∀ {xs : List V} {ns : List Int}, DpAll K H xs (ns.map PyData.int) → xs = ns.map V.int
  | _, [], h => by cases h; rfl
  | _, n :: r, h => by
    cases h with | cons h1 h2 =>
    rw [dp_int h1, dps_ints h2]; rfl
theorem dps_bools : ∀ {xs : List V} {ns : List Bool}, DpAll K H xs (ns.map PyData.bool) → xs = ns.map V.bl
  | _, [], h => by cases h; rfl
  | _, n :: r, h => by
    cases h with | cons h1 h2 =>
    rw [dp_bl h1, dps_bools h2]; rfl
theorem dps_of_ints : ∀ (ns : List Int), DpAll K H (ns.map V.int) (ns.map PyData.int)
  | [] => .nil
  | n :: r => .cons (.int n) (dps_of_ints r)
end
/-- a slice -/
def cutG {α : Type} (xs : List α) (lo hi : Option Int) : List α := (xs.drop (HT.sIx xs.length 0 lo)).take (HT.sIx xs.length xs.length hi - HT.sIx xs.length 0 lo)
theorem dps_cut {K : PySem.W.Frag} {H : Hp} {xs : List V} {ds : List PyData} (r : DpAll K H xs ds) (lo hi : Option Int) : DpAll K H (cutV xs lo hi) (cutG ds lo hi) := by
  unfold cutV cutG
  rw [dps_len r]
  exact dps_take _ (dps_drop _ r)
theorem cut_whole {α : Type} {xs : List α} {lo hi : Option Int} (h : HT.sIx xs.length 0 lo = 0 ∧ HT.sIx xs.length xs.length hi = xs.length) : cutG xs lo hi = xs := by
  unfold cutG
  rw [h.1, h.2]
  simp

/-! ### slots -/
inductive Sv where
  | d (x : PyData)
  | r (v : V)
def Sv.ok (K : PySem.W.Frag) (H : Hp) (v : V) : Sv → Prop
  | .d x => Dp K H v x
  | .r u => v = u
theorem Sv.up {K : PySem.W.Frag} {H H' : Hp} {v : V} (e : Same H H') : ∀ {s : Sv}, s.ok K H v → s.ok K H' v
  | .d _, h => dp_up e h
  | .r _, h => h
abbrev Gm := List (Option Sv)
def Slots (K : PySem.W.Frag) (σ : L2.St) (H : Hp) (Γ : Gm) : Prop := σ.length = Γ.length ∧ ∀ (i : Nat) (s : Sv), Γ[i]? = some (some s) → ∃ v, σ[i]? = some (some v) ∧ s.ok K H v
theorem Slots.up {K : PySem.W.Frag} {σ : L2.St} {H H' : Hp} {Γ : Gm} (e : Same H H') (h : Slots K σ H Γ) : Slots K σ H' Γ :=
  ⟨h.1, fun i s q => let ⟨v, a, b⟩ := h.2 i s q; ⟨v, a, Sv.up e b⟩⟩
theorem Slots.set {K : PySem.W.Frag} {σ : L2.St} {H : Hp} {Γ : Gm} {i : Nat} {v : V} {s : Sv} (h : Slots K σ H Γ) (q : s.ok K H v) : Slots K (σ.set i (some v)) H (Γ.set i (some s)) := by
  refine ⟨by rw [List.length_set, List.length_set]; exact h.1, fun j t e => ?_⟩
  by_cases hj : i = j
  · subst hj
    by_cases hl : i < Γ.length
    · rw [List.getElem?_set_self hl] at e
      cases e
      exact ⟨v, by rw [List.getElem?_set_self (by rw [h.1]; exact hl)], q⟩
    · rw [List.getElem?_eq_none (by simpa using hl)] at e; cases e
  · rw [List.getElem?_set_ne hj] at e ⊢
    exact h.2 j t e
/-- forget slots -/
theorem Slots.wipe {K : PySem.W.Frag} {σ : L2.St} {H : Hp} {Γ : Gm} (h : Slots K σ H Γ) : ∀ (l : List Nat), Slots K (L2.wipe σ l) H (l.foldr (fun i g => g.set i none) Γ)
  | [] => h
  | j :: l => by
    have ih := h.wipe l
    show Slots K ((L2.wipe σ l).set j none) H ((l.foldr (fun i g => g.set i none) Γ).set j none)
    refine ⟨by rw [List.length_set, List.length_set]; exact ih.1, fun k t e => ?_⟩
    by_cases hk : j = k
    · subst hk
      by_cases hl : j < (l.foldr (fun i g => g.set i none) Γ).length
      · rw [List.getElem?_set_self hl] at e; cases e
      · rw [List.getElem?_eq_none (by simpa using hl)] at e; cases e
    · rw [List.getElem?_set_ne hk] at e ⊢
      exact ih.2 k t e
theorem same_new {H : Hp} {p : Addr} {o : HO} (h : H p = none) : Same H (upd H p o) := fun b u e => by rw [upd_ne (ne_of_none e h)]; exact e

/-- a promise of the heap that new things don't break -/
structure MP where
  p : Hp → Prop
  up : ∀ {H H' : Hp}, Same H H' → p H → p H'
def MP.top : MP := ⟨fun _ => True, fun _ h => h⟩
def MP.at_ (a : Addr) (o : HO) : MP := ⟨fun H => H a = some o, fun e h => e _ _ h⟩
def MP.and (A B : MP) : MP := ⟨fun H => A.p H ∧ B.p H, fun e h => ⟨A.up e h.1, B.up e h.2⟩⟩
def MP.pure (P : Prop) : MP := ⟨fun _ => P, fun _ h => h⟩

/-! ### where one stands -/
structure In (P : Program) (w : World) (K : PySem.W.Frag) (mg : Str → Option Value) (base : Heap) (k : Nat) (X : Cx) : Prop where
  prog : X.prog = P
  w : X.w = w
  K : X.K = K
  mg : X.mg = mg
  base : X.base = base
  calm : X.calm = true
  room : Room k X.A
  nd : X.N.Nodup
theorem In.mono {P : Program} {w : World} {K : PySem.W.Frag} {mg : Str → Option Value} {base : Heap} {j k : Nat} {X : Cx} (h : In P w K mg base k X) (l : j ≤ k) : In P w K mg base j X :=
  ⟨h.prog, h.w, h.K, h.mg, h.base, h.calm, h.room.mono l, h.nd⟩
def VarAt (X : Cx) (i : Nat) (x : Str) : Prop := X.N[i]? = some x ∧ Vis X.env.scope x ∧ (x == ("__debug__" : Str)) = false ∧ (x == ("__classdict__" : Str)) = false
def LocAt (X : Cx) (i : Nat) (x : Str) : Prop := X.N[i]? = some x ∧ Loc X.env.scope x ∧ (X.fn x = true ∨ X.env.scope.names.lookup x = some .local)
def GlAt (X : Cx) (x : Str) : Prop := Gl X x ∧ (x == ("__debug__" : Str)) = false ∧ x ≠ "__name__"

/-! ### pure evaluation -/
section
variable {P : Program} {w : World} {K : PySem.W.Frag} {mg : Str → Option Value} {base : Heap} {k : Nat}
/-- e gives s: nothing that stood is touched -/
def Ev (K : PySem.W.Frag) (X : Cx) (Γ : Gm) (Φ : MP) (e : Expr) (s : Sv) : Prop :=
  ∀ (σ : L2.St) (H : Hp) (Q : VK), Slots K σ H Γ → Φ.p H → (∀ v H', Same H H' → s.ok K H' v → Q v H') → tE X e σ H Q
def EvT (K : PySem.W.Frag) (X : Cx) (Γ : Gm) (Φ : MP) (e : Expr) (b : Bool) : Prop :=
  ∀ (σ : L2.St) (H : Hp) (Q : Bool → Hp → Prop), Slots K σ H Γ → Φ.p H → (∀ H', Same H H' → Q b H') → tT X e σ H Q
def EvW (K : PySem.W.Frag) (X : Cx) (Γ : Gm) (Φ : MP) (e : Expr) (b : Bool) : Prop :=
  ∀ (σ : L2.St) (H : Hp) (Q : Bool → Hp → Prop), Slots K σ H Γ → Φ.p H → (∀ H', Same H H' → Q b H') → tW X e σ H Q
inductive SvAll (K : PySem.W.Frag) (H : Hp) : List V → List Sv → Prop where
  | nil : SvAll K H [] []
  | cons {v : V} {vs : List V} {s : Sv} {ss : List Sv} : s.ok K H v → SvAll K H vs ss → SvAll K H (v :: vs) (s :: ss)
theorem SvAll.up {H H' : Hp} (e : Same H H') : ∀ {vs : List V} {ss : List Sv}, SvAll K H vs ss → SvAll K H' vs ss
  | _, _, .nil => .nil
  | _, _, .cons h r => .cons (Sv.up e h) (SvAll.up e r)
theorem SvAll.ds : ∀ {H : Hp} {vs : List V} {ds : List PyData}, SvAll K H vs (ds.map Sv.d) → DpAll K H vs ds
  | _, _, [], .nil => .nil
  | _, _, _ :: _, .cons h r => .cons h (SvAll.ds r)
theorem SvAll.of : ∀ {H : Hp} {vs : List V} {ds : List PyData}, DpAll K H vs ds → SvAll K H vs (ds.map Sv.d)
  | _, _, _, .nil => .nil
  | _, _, _, .cons h r => .cons h (SvAll.of r)
theorem SvAll.len : ∀ {H : Hp} {vs : List V} {ss : List Sv}, SvAll K H vs ss → vs.length = ss.length
  | _, _, _, .nil => rfl
  | _, _, _, .cons _ r => by rw [List.length_cons, List.length_cons, SvAll.len r]
def EvA (K : PySem.W.Frag) (X : Cx) (Γ : Gm) (Φ : MP) (es : List Expr) (ss : List Sv) : Prop :=
  ∀ (σ : L2.St) (H : Hp) (Q : List V → Hp → Prop), Slots K σ H Γ → Φ.p H → (∀ vs H', Same H H' → SvAll K H' vs ss → Q vs H') → tA X es σ H Q
variable {X : Cx} {Γ : Gm} {Φ : MP} {a b c e : Expr} {es : List Expr} {pos p : Pos} {s t : Sv} {ss : List Sv}
theorem Ev.to (h : Ev K X Γ Φ e s) (q : s = t) : Ev K X Γ Φ e t := q ▸ h
theorem EvT.to {x y : Bool} (h : EvT K X Γ Φ e x) (q : x = y) : EvT K X Γ Φ e y := q ▸ h
theorem EvT.ofW {x : Bool} (h : EvW K X Γ Φ e x) : EvT K X Γ Φ e x := fun σ H Q hs hp k => tT_of_tW (h σ H Q hs hp k)

theorem ev_var {i : Nat} {x : Str} (hv : VarAt X i x) (h : Γ[i]? = some (some s)) : Ev K X Γ Φ (.Name x pos) s := fun σ H Q hs _ k => by
  obtain ⟨v, e1, e2⟩ := hs.2 i s h
  exact PEto (pe_var hv.1 hv.2.1 hv.2.2.1 hv.2.2.2) ⟨v, e1, k v H (Same.refl H) e2⟩
theorem ev_int {i : Int} {j : Nat} : Ev K X Γ Φ (.Constant (.int i) j pos) (.d (.int i)) := fun σ H Q _ _ k => PEto pe_int (k _ H (Same.refl H) (.int i))
theorem ev_bl {i : Bool} {j : Nat} : Ev K X Γ Φ (.Constant (.bool i) j pos) (.d (.bool i)) := fun σ H Q _ _ k => PEto pe_bl (k _ H (Same.refl H) (.bl i))
theorem ev_str {x : Str} {j : Nat} : Ev K X Γ Φ (.Constant (.str x) j pos) (.d (.str x)) := fun σ H Q _ _ k => PEto pe_str (k _ H (Same.refl H) (.str x))
theorem ev_non {j : Nat} : Ev K X Γ Φ (.Constant .none j pos) (.d .none) := fun σ H Q _ _ k => PEto pe_non (k _ H (Same.refl H) .non)
theorem ev_gint (hX : In P w K mg base k X) {x : Str} {i : Int} (g : GlAt X x) (h : ∃ t, mg x = some (.int i t)) : Ev K X Γ Φ (.Name x pos) (.d (.int i)) := fun σ H Q _ _ k => by
  obtain ⟨t, e⟩ := h
  exact PEto (pe_glob (v := V.int i) g.1 (by rw [hX.mg]; exact e) ⟨t, rfl⟩ g.2.1) (k (.int i) H (Same.refl H) (.int i))
theorem ev_gstr (hX : In P w K mg base k X) {x z : Str} (g : GlAt X x) (h : ∃ t, mg x = some (.str z t)) : Ev K X Γ Φ (.Name x pos) (.d (.str z)) := fun σ H Q _ _ k => by
  obtain ⟨t, e⟩ := h
  exact PEto (pe_glob (v := V.str z) g.1 (by rw [hX.mg]; exact e) ⟨t, rfl⟩ g.2.1) (k (.str z) H (Same.refl H) (.str z))
theorem ev_gref (hX : In P w K mg base k X) {x : Str} {f : Addr} (g : GlAt X x) (e : mg x = some (.ref f)) : Ev K X Γ Φ (.Name x pos) (.r (.ref f)) := fun σ H Q _ _ k =>
  PEto (pe_glob (v := .ref f) g.1 (by rw [hX.mg]; exact e) rfl g.2.1) (k (.ref f) H (Same.refl H) rfl)
theorem ev_gty (hX : In P w K mg base k X) {x : Str} {n : String} (g : GlAt X x) (e : mg x = none) (hv : bootBuiltins x = some (.type n)) : Ev K X Γ Φ (.Name x pos) (.r (.ty n)) := fun σ H Q _ _ k =>
  PEto (pe_bltn (v := .ty n) g.1 (by rw [hX.mg]; exact e) hv rfl g.2.2 g.2.1) (k (.ty n) H (Same.refl H) rfl)
/-- two pure parts, then an operation -/
theorem ev_op2 {r : R2} {op : Operator} (ho : OpR X (binaryOp op) r) (ha : Ev K X Γ Φ a s) (hb : Ev K X Γ Φ b t) {u : Sv}
    (hr : ∀ x y H (Q : VK), s.ok K H x → t.ok K H y → Φ.p H → (∀ v H', Same H H' → u.ok K H' v → Q v H') → r x y H Q) : Ev K X Γ Φ (.BinOp a op b pos) u := fun σ H Q hs hp k =>
  PEto (pe_op ho pe_sem pe_sem) (ha σ H _ hs hp fun x H1 e1 h1 => hb σ H1 _ (hs.up e1) (Φ.up e1 hp) fun y H2 e2 h2 => hr x y H2 _ (Sv.up e2 h1) h2 (Φ.up (e1.trans e2) hp) fun v H' e3 h3 => k v H' ((e1.trans e2).trans e3) h3)
theorem ev_add {i j : Int} (ha : Ev K X Γ Φ a (.d (.int i))) (hb : Ev K X Γ Φ b (.d (.int j))) : Ev K X Γ Φ (.BinOp a .Add b pos) (.d (.int (i + j))) :=
  ev_op2 op_add ha hb fun x y H Q h1 h2 _ k => ⟨i, j, dp_int h1, dp_int h2, k _ H (Same.refl H) (.int _)⟩
theorem ev_sub {i j : Int} (ha : Ev K X Γ Φ a (.d (.int i))) (hb : Ev K X Γ Φ b (.d (.int j))) : Ev K X Γ Φ (.BinOp a .Sub b pos) (.d (.int (i - j))) :=
  ev_op2 op_sub ha hb fun x y H Q h1 h2 _ k => ⟨i, j, dp_int h1, dp_int h2, k _ H (Same.refl H) (.int _)⟩
theorem ev_mul {i j : Int} (ha : Ev K X Γ Φ a (.d (.int i))) (hb : Ev K X Γ Φ b (.d (.int j))) (hc : CMul i j) : Ev K X Γ Φ (.BinOp a .Mult b pos) (.d (.int (i * j))) :=
  ev_op2 op_mul ha hb fun x y H Q h1 h2 _ k => ⟨i, j, dp_int h1, dp_int h2, hc, k _ H (Same.refl H) (.int _)⟩
theorem ev_mod {i j : Int} (ha : Ev K X Γ Φ a (.d (.int i))) (hb : Ev K X Γ Φ b (.d (.int j))) (hc : 0 < j) : Ev K X Γ Φ (.BinOp a .Mod b pos) (.d (.int (i % j))) :=
  ev_op2 op_mod ha hb fun x y H Q h1 h2 _ k => ⟨i, j, dp_int h1, dp_int h2, hc, k _ H (Same.refl H) (.int _)⟩
theorem ev_fdiv {i j : Int} (ha : Ev K X Γ Φ a (.d (.int i))) (hb : Ev K X Γ Φ b (.d (.int j))) (hc : CDiv i j) : Ev K X Γ Φ (.BinOp a .FloorDiv b pos) (.d (.int (i / j))) :=
  ev_op2 op_fdiv ha hb fun x y H Q h1 h2 _ k => ⟨i, j, dp_int h1, dp_int h2, hc, k _ H (Same.refl H) (.int _)⟩
/-- tuple + tuple -/
theorem ev_cat {xs ys : List PyData} (hX : In P w K mg base k X) (ha : Ev K X Γ Φ a (.d (.tuple xs))) (hb : Ev K X Γ Φ b (.d (.tuple ys))) (hz : xs.length + ys.length ≤ 1000) : Ev K X Γ Φ (.BinOp a .Add b pos) (.d (.tuple (xs ++ ys))) := by
  refine ev_op2 (r := rCatA X.K) op_catA ha hb fun x y H Q h1 h2 _ k => ?_
  obtain ⟨p, vs, rfl, q1, r1⟩ := dp_tup h1
  obtain ⟨q, us, rfl, q2, r2⟩ := dp_tup h2
  rw [hX.K]
  have l1 := dps_len r1
  have l2 := dps_len r2
  refine ⟨p, q, vs, us, rfl, rfl, q1, q2, by rw [sizeLine_eq]; omega, fun z => ?_, fun z1 z2 => ?_, fun _ _ p' hp' => ?_⟩
  · subst z
    cases r1
    exact k _ H (Same.refl H) (.tup q2 r2)
  · subst z2
    cases r2
    rw [List.append_nil] at k
    exact k _ H (Same.refl H) (.tup q1 r1)
  · exact k _ _ (same_new hp') (.tup (SqT.of upd_same) (dps_up (same_new hp') (dps_app r1 r2)))
/-- comparisons as values -/
theorem ev_cmp2 {r : R2} {op : CmpOp} (ho : OpR X (compareOp op) r) (ha : Ev K X Γ Φ a s) (hb : Ev K X Γ Φ b t) {u : Sv} (hm : behindInMarks op b = false)
    (hr : ∀ x y H (Q : VK), s.ok K H x → t.ok K H y → Φ.p H → (∀ v H', Same H H' → u.ok K H' v → Q v H') → r x y H Q) : Ev K X Γ Φ (.Compare a [op] [b] pos) u := fun σ H Q hs hp k =>
  PEto (pe_cmpR ho pe_sem pe_sem hm) (ha σ H _ hs hp fun x H1 e1 h1 => hb σ H1 _ (hs.up e1) (Φ.up e1 hp) fun y H2 e2 h2 => hr x y H2 _ (Sv.up e2 h1) h2 (Φ.up (e1.trans e2) hp) fun v H' e3 h3 => k v H' ((e1.trans e2).trans e3) h3)
theorem evt_cmp2 {r : R2} {op : CmpOp} {u : Bool} (ho : OpR X (compareOp op) r) (ha : Ev K X Γ Φ a s) (hb : Ev K X Γ Φ b t) (hm : behindInMarks op b = false)
    (hr : ∀ x y H (Q : VK), s.ok K H x → t.ok K H y → Φ.p H → (∀ H', Same H H' → Q (.bl u) H') → r x y H Q) : EvT K X Γ Φ (.Compare a [op] [b] pos) u := fun σ H Q hs hp k =>
  PTto (pt_cmpR ho pe_sem pe_sem hm) (ha σ H _ hs hp fun x H1 e1 h1 => hb σ H1 _ (hs.up e1) (Φ.up e1 hp) fun y H2 e2 h2 => hr x y H2 _ (Sv.up e2 h1) h2 (Φ.up (e1.trans e2) hp) fun H' e3 => ⟨u, rfl, k H' ((e1.trans e2).trans e3)⟩)
theorem ev_lt {i j : Int} (ha : Ev K X Γ Φ a (.d (.int i))) (hb : Ev K X Γ Φ b (.d (.int j))) : Ev K X Γ Φ (.Compare a [.Lt] [b] pos) (.d (.bool (decide (i < j)))) :=
  ev_cmp2 op_lt ha hb (nomark b) fun x y H Q h1 h2 _ k => ⟨i, j, dp_int h1, dp_int h2, k _ H (Same.refl H) (.bl _)⟩
theorem ev_le {i j : Int} (ha : Ev K X Γ Φ a (.d (.int i))) (hb : Ev K X Γ Φ b (.d (.int j))) : Ev K X Γ Φ (.Compare a [.LtE] [b] pos) (.d (.bool (decide (i ≤ j)))) :=
  ev_cmp2 op_le ha hb (nomark b) fun x y H Q h1 h2 _ k => ⟨i, j, dp_int h1, dp_int h2, k _ H (Same.refl H) (.bl _)⟩
theorem ev_gt {i j : Int} (ha : Ev K X Γ Φ a (.d (.int i))) (hb : Ev K X Γ Φ b (.d (.int j))) : Ev K X Γ Φ (.Compare a [.Gt] [b] pos) (.d (.bool (decide (j < i)))) :=
  ev_cmp2 op_gt ha hb (nomark b) fun x y H Q h1 h2 _ k => ⟨i, j, dp_int h1, dp_int h2, k _ H (Same.refl H) (.bl _)⟩
theorem evt_lt {i j : Int} (ha : Ev K X Γ Φ a (.d (.int i))) (hb : Ev K X Γ Φ b (.d (.int j))) : EvT K X Γ Φ (.Compare a [.Lt] [b] pos) (decide (i < j)) :=
  evt_cmp2 op_lt ha hb (nomark b) fun x y H Q h1 h2 _ k => ⟨i, j, dp_int h1, dp_int h2, k H (Same.refl H)⟩
theorem evt_le {i j : Int} (ha : Ev K X Γ Φ a (.d (.int i))) (hb : Ev K X Γ Φ b (.d (.int j))) : EvT K X Γ Φ (.Compare a [.LtE] [b] pos) (decide (i ≤ j)) :=
  evt_cmp2 op_le ha hb (nomark b) fun x y H Q h1 h2 _ k => ⟨i, j, dp_int h1, dp_int h2, k H (Same.refl H)⟩
theorem evt_gt {i j : Int} (ha : Ev K X Γ Φ a (.d (.int i))) (hb : Ev K X Γ Φ b (.d (.int j))) : EvT K X Γ Φ (.Compare a [.Gt] [b] pos) (decide (j < i)) :=
  evt_cmp2 op_gt ha hb (nomark b) fun x y H Q h1 h2 _ k => ⟨i, j, dp_int h1, dp_int h2, k H (Same.refl H)⟩
theorem evt_ge {i j : Int} (ha : Ev K X Γ Φ a (.d (.int i))) (hb : Ev K X Γ Φ b (.d (.int j))) : EvT K X Γ Φ (.Compare a [.GtE] [b] pos) (decide (j ≤ i)) :=
  evt_cmp2 op_ge ha hb (nomark b) fun x y H Q h1 h2 _ k => ⟨i, j, dp_int h1, dp_int h2, k H (Same.refl H)⟩
theorem units_of (hX : In P w K mg base k X) : X.A.units + 64 < cLine := hX.room.units
/-- == and != of data -/
theorem ev_eq {x y : PyData} (hX : In P w K mg base k X) (ha : Ev K X Γ Φ a (.d x)) (hb : Ev K X Γ Φ b (.d y)) (h1 : SeqAt.shaped x = true := by rfl) (h2 : SeqAt.shaped y = true := by rfl) : Ev K X Γ Φ (.Compare a [.Eq] [b] pos) (.d (.bool (PyData.eqv x y))) :=
  ev_cmp2 (op_eqD (units_of hX)) ha hb (nomark b) fun _ _ H Q q1 q2 _ k => ⟨x, y, by rw [hX.K]; exact q1, by rw [hX.K]; exact q2, h1, h2, k _ H (Same.refl H) (.bl _)⟩
theorem ev_ne {x y : PyData} (hX : In P w K mg base k X) (ha : Ev K X Γ Φ a (.d x)) (hb : Ev K X Γ Φ b (.d y)) (h1 : SeqAt.shaped x = true := by rfl) (h2 : SeqAt.shaped y = true := by rfl) : Ev K X Γ Φ (.Compare a [.NotEq] [b] pos) (.d (.bool (!PyData.eqv x y))) :=
  ev_cmp2 (op_neD (units_of hX)) ha hb (nomark b) fun _ _ H Q q1 q2 _ k => ⟨x, y, by rw [hX.K]; exact q1, by rw [hX.K]; exact q2, h1, h2, k _ H (Same.refl H) (.bl _)⟩
theorem evt_eq {x y : PyData} (hX : In P w K mg base k X) (ha : Ev K X Γ Φ a (.d x)) (hb : Ev K X Γ Φ b (.d y)) (h1 : SeqAt.shaped x = true := by rfl) (h2 : SeqAt.shaped y = true := by rfl) : EvT K X Γ Φ (.Compare a [.Eq] [b] pos) (PyData.eqv x y) :=
  evt_cmp2 (op_eqD (units_of hX)) ha hb (nomark b) fun _ _ H Q q1 q2 _ k => ⟨x, y, by rw [hX.K]; exact q1, by rw [hX.K]; exact q2, h1, h2, k H (Same.refl H)⟩
theorem evt_ne {x y : PyData} (hX : In P w K mg base k X) (ha : Ev K X Γ Φ a (.d x)) (hb : Ev K X Γ Φ b (.d y)) (h1 : SeqAt.shaped x = true := by rfl) (h2 : SeqAt.shaped y = true := by rfl) : EvT K X Γ Φ (.Compare a [.NotEq] [b] pos) (!PyData.eqv x y) :=
  evt_cmp2 (op_neD (units_of hX)) ha hb (nomark b) fun _ _ H Q q1 q2 _ k => ⟨x, y, by rw [hX.K]; exact q1, by rw [hX.K]; exact q2, h1, h2, k H (Same.refl H)⟩
/-- is None, is not None -/
theorem evt_notN {x : PyData} {j : Nat} {p' : Pos} (ha : Ev K X Γ Φ a (.d x)) (hx : (match x with | .none => true | _ => false) = c0) : EvT K X Γ Φ (.Compare a [.IsNot] [.Constant .none j p'] pos) (!c0) := by
  refine evt_cmp2 op_notN ha ev_non (nomark _) fun u y H Q h1 h2 _ k => ⟨dp_non h2, ?_⟩
  have e : decide (u = V.non) = c0 := by
    subst hx
    cases h1 with
    | non => rfl
    | _ => rfl
  rw [e]
  exact k H (Same.refl H)
/-- a < b < c as a value, as a test -/
theorem ev_chain {i j l : Int} (ha : Ev K X Γ Φ a (.d (.int i))) (hb : Ev K X Γ Φ b (.d (.int j))) (hc : Ev K X Γ Φ c (.d (.int l))) (hm : lastMarks [CmpOp.LtE, CmpOp.LtE] [b, c] = false := by with_unfolding_all rfl) : Ev K X Γ Φ (.Compare a [.LtE, .LtE] [b, c] pos) (.d (.bool (decide (i ≤ j) && decide (j ≤ l)))) := fun σ H Q hs hp k => by
  refine PEto (pe_chain op_le op_le pe_sem pe_sem pe_sem hm) ?_
  refine ha σ H _ hs hp fun x H1 e1 h1 => hb σ H1 _ (hs.up e1) (Φ.up e1 hp) fun y H2 e2 h2 => ⟨i, j, dp_int h1, dp_int h2, _, rfl, ?_⟩
  by_cases q : i ≤ j
  · rw [decide_eq_true q]
    refine hc σ H2 _ (hs.up (e1.trans e2)) (Φ.up (e1.trans e2) hp) fun z H3 e3 h3 => ⟨j, l, dp_int h2, dp_int h3, ?_⟩
    rw [decide_eq_true q, Bool.true_and] at k
    exact k _ H3 ((e1.trans e2).trans e3) (.bl _)
  · rw [decide_eq_false q]
    rw [decide_eq_false q, Bool.false_and] at k
    exact k _ H2 (e1.trans e2) (.bl _)
theorem evt_chain {i j l : Int} (ha : Ev K X Γ Φ a (.d (.int i))) (hb : Ev K X Γ Φ b (.d (.int j))) (hc : Ev K X Γ Φ c (.d (.int l))) (hm : lastMarks [CmpOp.LtE, CmpOp.LtE] [b, c] = false := by with_unfolding_all rfl) : EvT K X Γ Φ (.Compare a [.LtE, .LtE] [b, c] pos) (decide (i ≤ j) && decide (j ≤ l)) := fun σ H Q hs hp k => by
  refine PTto (pt_chain op_le op_le pe_sem pe_sem pe_sem hm) ?_
  refine ha σ H _ hs hp fun x H1 e1 h1 => hb σ H1 _ (hs.up e1) (Φ.up e1 hp) fun y H2 e2 h2 => ⟨i, j, dp_int h1, dp_int h2, _, rfl, ?_⟩
  by_cases q : i ≤ j
  · rw [decide_eq_true q]
    refine hc σ H2 _ (hs.up (e1.trans e2)) (Φ.up (e1.trans e2) hp) fun z H3 e3 h3 => ⟨j, l, dp_int h2, dp_int h3, _, rfl, ?_⟩
    rw [decide_eq_true q, Bool.true_and] at k
    exact k H3 ((e1.trans e2).trans e3)
  · rw [decide_eq_false q]
    rw [decide_eq_false q, Bool.false_and] at k
    exact ⟨_, rfl, k H2 (e1.trans e2)⟩
/-! tests -/
theorem evt_val {x : Bool} (h : Ev K X Γ Φ e (.d (.bool x))) (he : ∀ whole, isTrue e X.env whole = (do let v ← whole; standAt e.pos; holding [v] (truthy v)) := by intro _; rfl) : EvT K X Γ Φ e x := fun σ H Q hs hp k =>
  PTto (pt_val pe_sem he) (h σ H _ hs hp fun v H1 e1 h1 => ⟨x, dp_bl h1, k H1 e1⟩)
theorem evt_not {x : Bool} (h : EvT K X Γ Φ e x) : EvT K X Γ Φ (.UnaryOp .Not e pos) (!x) := fun σ H Q hs hp k => PTto (pt_not pt_sem) (h σ H _ hs hp fun H1 e1 => k H1 e1)
theorem evw_and1 {x : Bool} (h : EvT K X Γ Φ a x) : EvW K X Γ Φ (.BoolOp .And [a] pos) x := fun σ H Q hs hp k => PWto (pw_and1 pt_sem) (h σ H _ hs hp k)
theorem evw_or1 {x : Bool} (h : EvT K X Γ Φ a x) : EvW K X Γ Φ (.BoolOp .Or [a] pos) x := fun σ H Q hs hp k => PWto (pw_or1 pt_sem) (h σ H _ hs hp k)
theorem evw_and {x y : Bool} (h : EvT K X Γ Φ a x) (h2 : x = true → EvW K X Γ Φ (.BoolOp .And (b :: es) pos) y) : EvW K X Γ Φ (.BoolOp .And (a :: b :: es) pos) (x && y) := fun σ H Q hs hp k =>
  PWto (pw_and pt_sem pw_sem) (h σ H _ hs hp fun H1 e1 => by
    cases x with
    | true => exact iteT (h2 rfl σ H1 _ (hs.up e1) (Φ.up e1 hp) fun H2 e2 => k H2 (e1.trans e2))
    | false => exact iteF (k H1 e1))
theorem evw_or {x y : Bool} (h : EvT K X Γ Φ a x) (h2 : x = false → EvW K X Γ Φ (.BoolOp .Or (b :: es) pos) y) : EvW K X Γ Φ (.BoolOp .Or (a :: b :: es) pos) (x || y) := fun σ H Q hs hp k =>
  PWto (pw_or pt_sem pw_sem) (h σ H _ hs hp fun H1 e1 => by
    cases x with
    | false => exact iteF (h2 rfl σ H1 _ (hs.up e1) (Φ.up e1 hp) fun H2 e2 => k H2 (e1.trans e2))
    | true => exact iteT (k H1 e1))
/-- the same as values (bools) -/
theorem ev_one {op : BoolOp} (h : Ev K X Γ Φ a s) : Ev K X Γ Φ (.BoolOp op [a] pos) s := fun σ H Q hs hp k => PEto (pe_one pe_sem) (h σ H _ hs hp k)
theorem ev_and {x y : Bool} (h : Ev K X Γ Φ a (.d (.bool x))) (h2 : x = true → Ev K X Γ Φ (.BoolOp .And (b :: es) pos) (.d (.bool y))) : Ev K X Γ Φ (.BoolOp .And (a :: b :: es) pos) (.d (.bool (x && y))) := fun σ H Q hs hp k =>
  PEto (pe_and pe_sem pe_sem) (h σ H _ hs hp fun v H1 e1 h1 => ⟨x, dp_bl h1, by
    cases x with
    | true => exact iteT (h2 rfl σ H1 _ (hs.up e1) (Φ.up e1 hp) fun v H2 e2 q2 => k v H2 (e1.trans e2) q2)
    | false => exact iteF (k _ H1 e1 (.bl false))⟩)
theorem ev_or {x y : Bool} (h : Ev K X Γ Φ a (.d (.bool x))) (h2 : x = false → Ev K X Γ Φ (.BoolOp .Or (b :: es) pos) (.d (.bool y))) : Ev K X Γ Φ (.BoolOp .Or (a :: b :: es) pos) (.d (.bool (x || y))) := fun σ H Q hs hp k =>
  PEto (pe_or pe_sem pe_sem) (h σ H _ hs hp fun v H1 e1 h1 => ⟨x, dp_bl h1, by
    cases x with
    | false => exact iteF (h2 rfl σ H1 _ (hs.up e1) (Φ.up e1 hp) fun v H2 e2 q2 => k v H2 (e1.trans e2) q2)
    | true => exact iteT (k _ H1 e1 (.bl true))⟩)
theorem ev_not {x : Bool} (h : Ev K X Γ Φ e (.d (.bool x))) : Ev K X Γ Φ (.UnaryOp .Not e pos) (.d (.bool (!x))) := fun σ H Q hs hp k =>
  PEto (pe_not pe_sem) (h σ H _ hs hp fun v H1 e1 h1 => ⟨x, dp_bl h1, k _ H1 e1 (.bl _)⟩)
/-- a if c else b -/
theorem ev_if {x : Bool} (h : EvT K X Γ Φ c x) (h1 : x = true → Ev K X Γ Φ a s) (h2 : x = false → Ev K X Γ Φ b s) : Ev K X Γ Φ (.IfExp c a b pos) s := fun σ H Q hs hp k =>
  PEto (pe_ifExp pt_sem pe_sem pe_sem) (h σ H _ hs hp fun H1 e1 => by
    cases x with
    | true => exact iteT (h1 rfl σ H1 _ (hs.up e1) (Φ.up e1 hp) fun v H2 e2 q2 => k v H2 (e1.trans e2) q2)
    | false => exact iteF (h2 rfl σ H1 _ (hs.up e1) (Φ.up e1 hp) fun v H2 e2 q2 => k v H2 (e1.trans e2) q2))
/-! argument lists, displays -/
theorem eva_nil : EvA K X Γ Φ [] [] := fun σ H Q _ _ k => PAto pa_nil (k [] H (Same.refl H) .nil)
theorem eva_cons (h : Ev K X Γ Φ e s) (r : EvA K X Γ Φ es ss) (hs' : starEach (e :: es) X.env = (false, eval e X.env) :: starEach es X.env := by rfl) : EvA K X Γ Φ (e :: es) (s :: ss) := fun σ H Q hs hp k =>
  PAto (pa_cons pe_sem pa_sem hs') (h σ H _ hs hp fun v H1 e1 h1 => r σ H1 _ (hs.up e1) (Φ.up e1 hp) fun vs H2 e2 h2 => k (v :: vs) H2 (e1.trans e2) (.cons (Sv.up e2 h1) h2))
theorem SvAll.app {H : Hp} : ∀ {vs us : List V} {ss tt : List Sv}, SvAll K H vs ss → SvAll K H us tt → SvAll K H (vs ++ us) (ss ++ tt)
  | _, _, _, _, .nil, q => q
  | _, _, _, _, .cons h r, q => .cons h (SvAll.app r q)
/-- *e of a tuple -/
theorem eva_star {ds : List PyData} (hX : In P w K mg base k X) (h : Ev K X Γ Φ e (.d (.tuple ds))) (r : EvA K X Γ Φ es ss) (hs' : starEach (.Starred e p :: es) X.env = (true, eval e X.env) :: starEach es X.env := by rfl) : EvA K X Γ Φ (.Starred e p :: es) (ds.map Sv.d ++ ss) := fun σ H Q hs hp k =>
  PAto (StX.pa_star pe_sem pa_sem hs') (h σ H _ hs hp fun v H1 e1 h1 => by
    obtain ⟨a, xs, rfl, q1, r1⟩ := dp_tup h1
    refine ⟨a, xs, rfl, .inl (by rw [hX.K]; exact q1), r σ H1 _ (hs.up e1) (Φ.up e1 hp) fun vs H2 e2 h2 => k (xs ++ vs) H2 (e1.trans e2) (SvAll.app (SvAll.of (dps_up e2 r1)) h2)⟩)
theorem ev_tup {j : Nat} {ds : List PyData} (h : EvA K X Γ Φ es (ds.map Sv.d)) (hl : ds.length ≤ 1000) : Ev K X Γ Φ (.Tuple es j pos) (.d (.tuple ds)) := fun σ H Q hs hp k =>
  PEto (pe_tup pa_sem) (h σ H _ hs hp fun vs H1 e1 h1 => ⟨by rw [SvAll.len h1, List.length_map, sizeLine_eq]; omega, fun p hp' => k (.ref p) _ (e1.trans (same_new hp')) (.tup (SqT.of upd_same) (dps_up (same_new hp') (SvAll.ds h1)))⟩)
theorem ev_lst {ds : List PyData} (h : EvA K X Γ Φ es (ds.map Sv.d)) (hl : ds.length ≤ 1000) : Ev K X Γ Φ (.List es pos) (.d (.list ds)) := fun σ H Q hs hp k =>
  PEto (pe_lst pa_sem) (h σ H _ hs hp fun vs H1 e1 h1 => ⟨by rw [SvAll.len h1, List.length_map, sizeLine_eq]; omega, fun p hp' => k (.ref p) _ (e1.trans (same_new hp')) (.lst (SqL.of upd_same) (dps_up (same_new hp') (SvAll.ds h1)))⟩)
/-! places, slices -/
theorem ev_ixT {ds : List PyData} {i : Int} {d : PyData} (hX : In P w K mg base k X) (ha : Ev K X Γ Φ a (.d (.tuple ds))) (hb : Ev K X Γ Φ b (.d (.int i))) (h : atI ds i = some d) (hx : PlainIx b := by exact fun _ _ => rfl) : Ev K X Γ Φ (.Subscript a b pos) (.d d) := fun σ H Q hs hp k =>
  PEto (pe_ix ix_tup pe_sem pe_sem hx) (ha σ H _ hs hp fun x H1 e1 h1 => hb σ H1 _ (hs.up e1) (Φ.up e1 hp) fun y H2 e2 h2 => by
    obtain ⟨p, xs, rfl, q1, r1⟩ := dp_tup h1
    obtain ⟨v, e3, e4⟩ := dps_atI r1 h
    exact ⟨p, xs, i, v, rfl, dp_int h2, by rw [hX.K]; exact same_tup e2 q1, e3, k v H2 (e1.trans e2) (dp_up e2 e4)⟩)
theorem ev_ixL {ds : List PyData} {i : Int} {d : PyData} (hX : In P w K mg base k X) (ha : Ev K X Γ Φ a (.d (.list ds))) (hb : Ev K X Γ Φ b (.d (.int i))) (h : atI ds i = some d) (hx : PlainIx b := by exact fun _ _ => rfl) : Ev K X Γ Φ (.Subscript a b pos) (.d d) := fun σ H Q hs hp k =>
  PEto (pe_ix ix_list pe_sem pe_sem hx) (ha σ H _ hs hp fun x H1 e1 h1 => hb σ H1 _ (hs.up e1) (Φ.up e1 hp) fun y H2 e2 h2 => by
    obtain ⟨p, xs, rfl, q1, r1⟩ := dp_lst h1
    obtain ⟨v, e3, e4⟩ := dps_atI r1 h
    exact ⟨p, xs, i, v, rfl, dp_int h2, by rw [hX.K]; exact e2.seq q1, e3, k v H2 (e1.trans e2) (dp_up e2 e4)⟩)
def EvO (K : PySem.W.Frag) (X : Cx) (Γ : Gm) (Φ : MP) (e : Option Expr) (o : Option Int) : Prop := match e, o with
  | none, none => True
  | some e, some i => Ev K X Γ Φ e (.d (.int i))
  | _, _ => False
def tO (X : Cx) : Option Expr → TO
  | none => tNoPart
  | some e => tPart (tE X e)
theorem po_sem : ∀ {e : Option Expr}, PO X e (tO X e)
  | none => po_none
  | some _ => po_some pe_sem
theorem evo_run : ∀ {e : Option Expr} {o : Option Int}, EvO K X Γ Φ e o → ∀ (σ : L2.St) (H : Hp) (Q : Option Int → Hp → Prop), Slots K σ H Γ → Φ.p H → (∀ H', Same H H' → Q o H') → tO X e σ H Q
  | none, none, _, σ, H, Q, _, _, k => k H (Same.refl H)
  | some _, some i, h, σ, H, Q, hs, hp, k => h σ H _ hs hp fun v H1 e1 h1 => ⟨i, dp_int h1, k H1 e1⟩
  | none, some _, h, _, _, _, _, _, _ => h.elim
  | some _, none, h, _, _, _, _, _, _ => h.elim
theorem ev_slT {ds : List PyData} {lo hi : Option Expr} {l u : Option Int} {p2 : Pos} (hX : In P w K mg base k X) (ha : Ev K X Γ Φ a (.d (.tuple ds))) (h1 : EvO K X Γ Φ lo l) (h2 : EvO K X Γ Φ hi u) : Ev K X Γ Φ (.Subscript a (.Slice lo hi none p2) pos) (.d (.tuple (cutG ds l u))) := fun σ H Q hs hp k =>
  PEto (pe_slice sl_tupA pe_sem po_sem po_sem) (ha σ H _ hs hp fun x H1 e1 q1 => evo_run h1 σ H1 _ (hs.up e1) (Φ.up e1 hp) fun H2 e2 => evo_run h2 σ H2 _ (hs.up (e1.trans e2)) (Φ.up (e1.trans e2) hp) fun H3 e3 => by
    obtain ⟨p, xs, rfl, q2, r2⟩ := dp_tup q1
    have q3 := same_tup (e2.trans e3) q2
    have r3 := dps_up (e2.trans e3) r2
    have e := (e1.trans e2).trans e3
    rw [hX.K]
    refine ⟨p, xs, rfl, q3, fun hw => ?_, fun _ p' hp' => ?_⟩
    · rw [dps_len r2] at hw
      rw [cut_whole hw] at k
      exact k _ H3 e (.tup q3 r3)
    · exact k _ _ (e.trans (same_new hp')) (.tup (SqT.of upd_same) (dps_up (same_new hp') (dps_cut r3 _ _))))
theorem ev_slL {ds : List PyData} {lo hi : Option Expr} {l u : Option Int} {p2 : Pos} (hX : In P w K mg base k X) (ha : Ev K X Γ Φ a (.d (.list ds))) (h1 : EvO K X Γ Φ lo l) (h2 : EvO K X Γ Φ hi u) : Ev K X Γ Φ (.Subscript a (.Slice lo hi none p2) pos) (.d (.list (cutG ds l u))) := fun σ H Q hs hp k =>
  PEto (pe_slice sl_list pe_sem po_sem po_sem) (ha σ H _ hs hp fun x H1 e1 q1 => evo_run h1 σ H1 _ (hs.up e1) (Φ.up e1 hp) fun H2 e2 => evo_run h2 σ H2 _ (hs.up (e1.trans e2)) (Φ.up (e1.trans e2) hp) fun H3 e3 => by
    obtain ⟨p, xs, rfl, q2, r2⟩ := dp_lst q1
    have q3 := (e2.trans e3).seq q2
    have r3 := dps_up (e2.trans e3) r2
    have e := (e1.trans e2).trans e3
    rw [hX.K]
    exact ⟨p, xs, rfl, q3, fun p' hp' => k _ _ (e.trans (same_new hp')) (.lst (SqL.of upd_same) (dps_up (same_new hp') (dps_cut r3 _ _)))⟩)
/-! calls of the built-in ones -/
theorem ev_callB {r : List V → Hp → VK → Prop} {id : String} {x : Str} {u : Sv} (hX : In P w K mg base k X) (g : GlAt X x) (hc : CallR X (.builtin id) r) (hm : mg x = none) (hv : bootBuiltins x = some (.builtin id)) (ha : EvA K X Γ Φ (e :: es) ss)
    (hr : ∀ vs H (Q : VK), SvAll K H vs ss → Φ.p H → (∀ v H', Same H H' → u.ok K H' v → Q v H') → r vs H Q) (he : starEach (e :: es) X.env = (false, eval e X.env) :: starEach es X.env := by rfl) (hpl : (backTo pos (starEach es X.env)).any (·.1) = false := by rfl) : Ev K X Γ Φ (.Call (.Name x p) (e :: es) [] pos) u := fun σ H Q hs hp k =>
  PEto (pe_callB hc g.1 (by rw [hX.mg]; exact hm) hv pa_sem g.2.2 g.2.1 he hpl) (ha σ H _ hs hp fun vs H1 e1 h1 => hr vs H1 _ h1 (Φ.up e1 hp) fun v H' e2 h2 => k v H' (e1.trans e2) h2)
theorem ev_callTy {r : List V → Hp → VK → Prop} {T : String} {x : Str} {u : Sv} (hX : In P w K mg base k X) (g : GlAt X x) (hc : CallR X (.type T) r) (hm : mg x = none) (hv : bootBuiltins x = some (.type T)) (ha : EvA K X Γ Φ (e :: es) ss)
    (hr : ∀ vs H (Q : VK), SvAll K H vs ss → Φ.p H → (∀ v H', Same H H' → u.ok K H' v → Q v H') → r vs H Q) (he : starEach (e :: es) X.env = (false, eval e X.env) :: starEach es X.env := by rfl) (hpl : (backTo pos (starEach es X.env)).any (·.1) = false := by rfl) : Ev K X Γ Φ (.Call (.Name x p) (e :: es) [] pos) u := fun σ H Q hs hp k =>
  PEto (pe_callTy hc g.1 (by rw [hX.mg]; exact hm) hv pa_sem g.2.2 g.2.1 he hpl) (ha σ H _ hs hp fun vs H1 e1 h1 => hr vs H1 _ h1 (Φ.up e1 hp) fun v H' e2 h2 => k v H' (e1.trans e2) h2)
theorem sv1 {H : Hp} {vs : List V} {s : Sv} (h : SvAll K H vs [s]) : ∃ v, vs = [v] ∧ s.ok K H v := by
  cases h with | cons h r => cases r; exact ⟨_, rfl, h⟩
theorem sv2 {H : Hp} {vs : List V} {s t : Sv} (h : SvAll K H vs [s, t]) : ∃ v u, vs = [v, u] ∧ s.ok K H v ∧ t.ok K H u := by
  cases h with | cons h r => cases r with | cons h2 r2 => cases r2; exact ⟨_, _, rfl, h, h2⟩
theorem ev_lenT {ds : List PyData} (hX : In P w K mg base k X) (g : GlAt X "len") (hm : mg "len" = none) (ha : Ev K X Γ Φ e (.d (.tuple ds))) (he : starEach [e] X.env = (false, eval e X.env) :: starEach [] X.env := by rfl) : Ev K X Γ Φ (.Call (.Name "len" p) [e] [] pos) (.d (.int (ds.length : Int))) :=
  ev_callB hX g call_len_seq hm PySem.boot_len (eva_cons ha eva_nil he) (fun vs H Q h _ k => by
    obtain ⟨v, rfl, h1⟩ := sv1 h
    obtain ⟨a, xs, rfl, q1, r1⟩ := dp_tup h1
    refine ⟨a, xs, rfl, .inr (by rw [hX.K]; exact q1), ?_⟩
    rw [dps_len r1]
    exact k _ H (Same.refl H) (.int _)) he
theorem ev_lenL {ds : List PyData} (hX : In P w K mg base k X) (g : GlAt X "len") (hm : mg "len" = none) (ha : Ev K X Γ Φ e (.d (.list ds))) (he : starEach [e] X.env = (false, eval e X.env) :: starEach [] X.env := by rfl) : Ev K X Γ Φ (.Call (.Name "len" p) [e] [] pos) (.d (.int (ds.length : Int))) :=
  ev_callB hX g call_len_seq hm PySem.boot_len (eva_cons ha eva_nil he) (fun vs H Q h _ k => by
    obtain ⟨v, rfl, h1⟩ := sv1 h
    obtain ⟨a, xs, rfl, q1, r1⟩ := dp_lst h1
    refine ⟨a, xs, rfl, .inl (by rw [hX.K]; exact q1), ?_⟩
    rw [dps_len r1]
    exact k _ H (Same.refl H) (.int _)) he
theorem ev_sumL {ns : List Int} (hX : In P w K mg base k X) (g : GlAt X "sum") (hm : mg "sum" = none) (hv : bootBuiltins "sum" = some (.builtin "sum")) (ha : Ev K X Γ Φ e (.d (.list (ns.map .int)))) (he : starEach [e] X.env = (false, eval e X.env) :: starEach [] X.env := by rfl) : Ev K X Γ Φ (.Call (.Name "sum" p) [e] [] pos) (.d (.int ns.sum)) :=
  ev_callB hX g (cr_sum hX.calm) hm hv (eva_cons ha eva_nil he) (fun vs H Q h _ k => by
    obtain ⟨v, rfl, h1⟩ := sv1 h
    obtain ⟨a, xs, rfl, q1, r1⟩ := dp_lst h1
    rw [dps_ints r1] at q1
    exact ⟨a, ns, rfl, by rw [hX.K]; exact q1, k _ H (Same.refl H) (.int _)⟩) he
theorem ev_allL {bs : List Bool} (hX : In P w K mg base k X) (g : GlAt X "all") (hm : mg "all" = none) (hv : bootBuiltins "all" = some (.builtin "all")) (ha : Ev K X Γ Φ e (.d (.list (bs.map .bool)))) (he : starEach [e] X.env = (false, eval e X.env) :: starEach [] X.env := by rfl) : Ev K X Γ Φ (.Call (.Name "all" p) [e] [] pos) (.d (.bool (bs.all id))) :=
  ev_callB hX g (cr_all hX.calm) hm hv (eva_cons ha eva_nil he) (fun vs H Q h _ k => by
    obtain ⟨v, rfl, h1⟩ := sv1 h
    obtain ⟨a, xs, rfl, q1, r1⟩ := dp_lst h1
    rw [dps_bools r1] at q1
    exact ⟨a, bs, rfl, by rw [hX.K]; exact q1, k _ H (Same.refl H) (.bl _)⟩) he
theorem ev_tupleL {ds : List PyData} (hX : In P w K mg base k X) (g : GlAt X "tuple") (hm : mg "tuple" = none) (hv : bootBuiltins "tuple" = some (.type "tuple")) (ha : Ev K X Γ Φ e (.d (.list ds))) (he : starEach [e] X.env = (false, eval e X.env) :: starEach [] X.env := by rfl) : Ev K X Γ Φ (.Call (.Name "tuple" p) [e] [] pos) (.d (.tuple ds)) :=
  ev_callTy hX g call_tuple_of hm hv (eva_cons ha eva_nil he) (fun vs H Q h _ k => by
    obtain ⟨v, rfl, h1⟩ := sv1 h
    obtain ⟨a, xs, rfl, q1, r1⟩ := dp_lst h1
    exact ⟨a, xs, rfl, .inl ⟨by rw [hX.K]; exact q1, fun l hl => k _ _ (same_new hl) (.tup (SqT.of upd_same) (dps_up (same_new hl) r1))⟩⟩) he
theorem ev_tupleT {ds : List PyData} (hX : In P w K mg base k X) (g : GlAt X "tuple") (hm : mg "tuple" = none) (hv : bootBuiltins "tuple" = some (.type "tuple")) (ha : Ev K X Γ Φ e (.d (.tuple ds))) (he : starEach [e] X.env = (false, eval e X.env) :: starEach [] X.env := by rfl) : Ev K X Γ Φ (.Call (.Name "tuple" p) [e] [] pos) (.d (.tuple ds)) :=
  ev_callTy hX g call_tuple_of hm hv (eva_cons ha eva_nil he) (fun vs H Q h _ k => by
    obtain ⟨v, rfl, h1⟩ := sv1 h
    obtain ⟨a, xs, rfl, q1, r1⟩ := dp_tup h1
    exact ⟨a, xs, rfl, .inr ⟨by rw [hX.K]; exact q1, k _ H (Same.refl H) (.tup q1 r1)⟩⟩) he
theorem ev_int1 {i : Int} (hX : In P w K mg base k X) (g : GlAt X "int") (hm : mg "int" = none) (hv : bootBuiltins "int" = some (.type "int")) (ha : Ev K X Γ Φ e (.d (.int i))) (he : starEach [e] X.env = (false, eval e X.env) :: starEach [] X.env := by rfl) : Ev K X Γ Φ (.Call (.Name "int" p) [e] [] pos) (.d (.int i)) :=
  ev_callTy hX g call_int1 hm hv (eva_cons ha eva_nil he) (fun vs H Q h _ k => by
    obtain ⟨v, rfl, h1⟩ := sv1 h
    exact .inl ⟨i, by rw [dp_int h1], k _ H (Same.refl H) (.int _)⟩) he
/-- isinstance(x, T) of data -/
def tyN : PyData → String
  | .none => "NoneType"
  | .bool _ => "bool"
  | .int _ => "int"
  | .str _ => "str"
  | .tuple _ => "tuple"
  | .list _ => "list"
  | _ => ""
theorem dp_ty {H : Hp} {v : V} {d : PyData} (h : Dp K H v d) : TyX K H v (.type (tyN d)) := by
  cases h with
  | non => exact .base .non
  | bl b => exact .base (.bl b)
  | int i => exact .base (.int i)
  | str x => exact .base (.str x)
  | lst q r =>
    rcases q with (q | ⟨o, q⟩) | ⟨o, its, n, q1, q2, _⟩
    · exact .base (.lst q)
    · exact .base (.frz q)
    · exact .kList q1 q2
  | tup q r =>
    rcases q with (q | ⟨o, q⟩) | ⟨o, its, n, q1, q2, _⟩
    · exact .base (.tup q)
    · exact .fTuple q
    · exact .kTuple q1 q2
theorem ev_isi {d : PyData} {T : String} {r : Bool} {x : Str} {p3 : Pos} (hX : In P w K mg base k X) (g : GlAt X "isinstance") (hm : mg "isinstance" = none) (hv : bootBuiltins "isinstance" = some (.builtin "isinstance")) (gT : GlAt X x) (hmT : mg x = none) (hvT : bootBuiltins x = some (.type T))
    (ha : Ev K X Γ Φ e (.d d)) (hk : kitB (tyN d) T = some r) (he : starEach [e, .Name x p3] X.env = (false, eval e X.env) :: starEach [.Name x p3] X.env := by rfl) (he2 : starEach [.Name x p3] X.env = (false, eval (.Name x p3) X.env) :: starEach [] X.env := by rfl) (hpl : (backTo pos (starEach [.Name x p3] X.env)).any (·.1) = false := by rfl) :
    Ev K X Γ Φ (.Call (.Name "isinstance" p) [e, .Name x p3] [] pos) (.d (.bool r)) :=
  ev_callB hX g call_isi hm hv (eva_cons ha (eva_cons (ev_gty hX gT hmT hvT) eva_nil he2) he) (fun vs H Q h _ k => by
    obtain ⟨v, u, rfl, h1, h2⟩ := sv2 h
    cases (show u = V.ty T from h2)
    exact ⟨v, .ty T, .type (tyN d), .type T, r, rfl, .ty T, by rw [hX.K]; exact dp_ty h1, kit_ty hk, k _ H (Same.refl H) (.bl _)⟩) he hpl
end
end BL
end

section
set_option Elab.async false
set_option linter.all false
set_option maxRecDepth 100000
set_option maxHeartbeats 4000000
/-! BLb: what is walked, comprehensions, statements, defs of data. -/
namespace BL
open PySem PySem.Spec PyProof.Rows L2

/-! ### no list, no dict in it -/
mutual
def nl : PyData → Bool
  | .none => true
  | .bool _ => true
  | .int _ => true
  | .str _ => true
  | .tuple ds => nls ds
  | _ => false
def nls : List PyData → Bool
  | [] => true
  | d :: ds => nl d && nls ds
end
theorem nls_all : ∀ {ds : List PyData}, (∀ d ∈ ds, nl d = true) → nls ds = true
  | [], _ => by unfold nls; rfl
  | d :: ds, h => by unfold nls; rw [h d List.mem_cons_self, nls_all fun e he => h e (List.mem_cons_of_mem _ he)]; rfl
theorem nls_mem : ∀ {ds : List PyData}, nls ds = true → ∀ d ∈ ds, nl d = true
  | [], _, d, hd => by cases hd
  | e :: ds, h, d, hd => by
    unfold nls at h
    obtain ⟨h1, h2⟩ := Bool.and_eq_true_iff.mp h
    rcases List.mem_cons.mp hd with z | z
    · rw [z]; exact h1
    · exact nls_mem h2 d z
/-- tuples stay -/
def TupS (H H' : Hp) : Prop := ∀ b o, H b = some o → ((∃ xs, o = .tup xs) ∨ ∃ ob u, o = .frz ob u) → H' b = some o
theorem tupS_t {K : PySem.W.Frag} {H H' : Hp} {a : Addr} {xs : List V} (e : TupS H H') (h : SqT K H a xs) : SqT K H' a xs := by
  rcases h with (h | ⟨o, h⟩) | h
  · exact .inl (.inl (e _ _ h (.inl ⟨_, rfl⟩)))
  · exact .inl (.inr ⟨o, e _ _ h (.inr ⟨_, _, rfl⟩)⟩)
  · exact .inr h
mutual
theorem dp_nl {K : PySem.W.Frag} {H H' : Hp} (e : TupS H H') : ∀ {v : V} {d : PyData}, nl d = true → Dp K H v d → Dp K H' v d
  | _, _, _, .non => .non
  | _, _, _, .bl b => .bl b
  | _, _, _, .int i => .int i
  | _, _, _, .str x => .str x
  | _, _, n, .lst h r => by unfold nl at n; cases n
  | _, _, n, .tup h r => .tup (tupS_t e h) (dps_nl e (by unfold nl at n; exact n) r)
theorem dps_nl {K : PySem.W.Frag} {H H' : Hp} (e : TupS H H') : ∀ {vs : List V} {ds : List PyData}, nls ds = true → DpAll K H vs ds → DpAll K H' vs ds
  | _, _, _, .nil => .nil
  | _, _, n, .cons h r => by
    unfold nls at n
    obtain ⟨n1, n2⟩ := Bool.and_eq_true_iff.mp n
    exact .cons (dp_nl e n1 h) (dps_nl e n2 r)
end
theorem tupS_lst {H : Hp} {a : Addr} {xs ys : List V} (h : H a = some (.lst xs)) : TupS H (upd H a (.lst ys)) := fun b o e q => by
  by_cases hb : b = a
  · subst hb
    rw [h] at e
    cases e
    rcases q with ⟨_, q⟩ | ⟨_, _, q⟩ <;> cases q
  · rw [upd_ne hb]; exact e
theorem dps_snoc {K : PySem.W.Frag} {H : Hp} {xs : List V} {ds : List PyData} {v : V} {d : PyData} (h : DpAll K H xs ds) (q : Dp K H v d) : DpAll K H (xs ++ [v]) (ds ++ [d]) := dps_app h (.cons q .nil)

/-! ### what is walked -/
def Yields (K : PySem.W.Frag) (J : It) (H : Hp) (ds : List PyData) : Prop := ∃ (G : Hp → Prop) (Y : Nat → Hp → V → Hp → Prop), Walk J ds.length G Y ∧ (∀ H', Same H H' → G H') ∧
  ∀ i H1 x H2, Same H H1 → Y i H1 x H2 → Same H1 H2 ∧ ∃ d, ds[i]? = some d ∧ Dp K H2 x d
def EvI (K : PySem.W.Frag) (X : Cx) (Γ : Gm) (Φ : MP) (tg it : Expr) (ds : List PyData) : Prop :=
  ∀ (σ : L2.St) (H : Hp) (R : It → Hp → Prop), Slots K σ H Γ → Φ.p H → (∀ J H', Same H H' → Yields K J H' ds → R J H') → tI X tg it σ H R
section
variable {P : Program} {w : World} {K : PySem.W.Frag} {mg : Str → Option Value} {base : Heap} {k : Nat}
variable {X : Cx} {Γ Γ' : Gm} {Φ : MP} {a b c e tg it : Expr} {es : List Expr} {pos p : Pos} {s t : Sv} {ss : List Sv} {ds : List PyData}
theorem evi_tup (hX : In P w K mg base k X) (h : Ev K X Γ Φ it (.d (.tuple ds))) : EvI K X Γ Φ tg it ds := fun σ H R hs hp k => by
  refine PIto (pi_tup pe_sem) (h σ H _ hs hp fun v H1 e1 h1 => ?_)
  obtain ⟨a, xs, rfl, q, r⟩ := dp_tup h1
  rw [hX.K]
  refine ⟨a, rfl, ⟨xs, q⟩, k _ H1 e1 ⟨fun H => SqT K H a xs, YAt xs, by rw [← dps_len r]; exact walk_tup, fun H' e => same_tup e q, fun i H2 x H3 e y => ?_⟩⟩
  obtain ⟨rfl, y⟩ := y
  obtain ⟨d, d1, d2⟩ := dps_getV r y
  exact ⟨Same.refl _, d, d1, dp_up e d2⟩
theorem evi_lst (hX : In P w K mg base k X) (h : Ev K X Γ Φ it (.d (.list ds))) : EvI K X Γ Φ tg it ds := fun σ H R hs hp k => by
  refine PIto (pi_list pe_sem) (h σ H _ hs hp fun v H1 e1 h1 => ?_)
  obtain ⟨a, xs, rfl, q, r⟩ := dp_lst h1
  rw [hX.K]
  refine ⟨a, rfl, ⟨xs, q⟩, k _ H1 e1 ⟨fun H => SqL K H a xs, YAt xs, by rw [← dps_len r]; exact walk_list, fun H' e => e.seq q, fun i H2 x H3 e y => ?_⟩⟩
  obtain ⟨rfl, y⟩ := y
  obtain ⟨d, d1, d2⟩ := dps_getV r y
  exact ⟨Same.refl _, d, d1, dp_up e d2⟩
/-- lo, lo + 1, .. n of them -/
def rngD (lo : Int) (n : Nat) : List PyData := (List.range n).map fun (i : Nat) => PyData.int (lo + (i : Int))
theorem rngD_len (lo : Int) (n : Nat) : (rngD lo n).length = n := by unfold rngD; simp
theorem rngD_get {lo : Int} {n i : Nat} (h : i < n) : (rngD lo n)[i]? = some (.int (lo + (i : Int))) := by unfold rngD; simp [h]
theorem yields_rng {H : Hp} (lo : Int) (n : Nat) : Yields K (Itr lo n) H (rngD lo n) := by
  have wr : Walk (Itr lo n) n (fun _ => True) (fun i H x H' => i < n ∧ H' = H ∧ x = .int (lo + (i : Int))) := ⟨fun _ _ hi _ => hi, fun _ _ => Nat.le_refl _, fun _ _ _ _ hi _ y => ⟨hi, y⟩⟩
  refine ⟨_, _, by rw [rngD_len]; exact wr, fun _ _ => trivial, fun i H1 x H2 e y => ?_⟩
  obtain ⟨y0, rfl, rfl⟩ := y
  exact ⟨Same.refl _, _, rngD_get y0, .int _⟩
theorem evi_rng1 {n : Int} (hX : In P w K mg base k X) (g : GlAt X "range") (hm : mg "range" = none) (ha : Ev K X Γ Φ a (.d (.int n))) (h1 : -(2 ^ 62) ≤ n) (h2 : n < 2 ^ 62) (hs : starEach [a] X.env = [(false, eval a X.env)] := by rfl) :
    EvI K X Γ Φ tg (.Call (.Name "range" p) [a] [] pos) (rngD 0 n.toNat) := fun σ H R hs' hp k => by
  refine PIto (pi_range1 g.1 (by rw [hX.mg]; exact hm) pa_sem hs) (eva_cons ha eva_nil hs σ H _ hs' hp fun vs H1 e1 q => ?_)
  obtain ⟨v, rfl, q1⟩ := sv1 q
  exact ⟨n, by rw [dp_int q1], h1, h2, k _ H1 e1 (yields_rng 0 _)⟩
theorem evi_rng2 {m n : Int} (hX : In P w K mg base k X) (g : GlAt X "range") (hm : mg "range" = none) (ha : Ev K X Γ Φ a (.d (.int m))) (hb : Ev K X Γ Φ b (.d (.int n))) (hz : -(2 ^ 62) ≤ m ∧ m < 2 ^ 62 ∧ -(2 ^ 62) ≤ n ∧ n < 2 ^ 62)
    (hs : starEach [a, b] X.env = [(false, eval a X.env), (false, eval b X.env)] := by rfl) (hs2 : starEach [b] X.env = [(false, eval b X.env)] := by rfl) :
    EvI K X Γ Φ tg (.Call (.Name "range" p) [a, b] [] pos) (rngD m (n - m).toNat) := fun σ H R hs' hp k => by
  refine PIto (pi_range2 g.1 (by rw [hX.mg]; exact hm) pa_sem hs hs2) (eva_cons ha (eva_cons hb eva_nil hs2) (by rw [hs, hs2]) σ H _ hs' hp fun vs H1 e1 q => ?_)
  obtain ⟨v, u, rfl, q1, q2⟩ := sv2 q
  exact ⟨m, n, by rw [dp_int q1, dp_int q2], hz, k _ H1 e1 (yields_rng m _)⟩
/-- pairs -/
def zipD : List PyData → List PyData → List PyData
  | x :: xs, y :: ys => .tuple [x, y] :: zipD xs ys
  | _, _ => []
theorem zipD_len : ∀ xs ys : List PyData, (zipD xs ys).length = min xs.length ys.length
  | [], _ => by unfold zipD; simp
  | _ :: _, [] => by unfold zipD; simp
  | x :: xs, y :: ys => by unfold zipD; rw [List.length_cons, zipD_len xs ys]; simp only [List.length_cons]; omega
theorem zipD_get : ∀ {xs ys : List PyData} {i : Nat} {x y : PyData}, xs[i]? = some x → ys[i]? = some y → (zipD xs ys)[i]? = some (.tuple [x, y])
  | [], _, _, _, _, h, _ => by simp at h
  | _ :: _, [], _, _, _, _, h => by simp at h
  | u :: xs, v :: ys, 0, x, y, h1, h2 => by simp at h1 h2; subst h1 h2; unfold zipD; rfl
  | u :: xs, v :: ys, i + 1, x, y, h1, h2 => by unfold zipD; simpa using zipD_get (xs := xs) (ys := ys) (i := i) (by simpa using h1) (by simpa using h2)
theorem walk_zipT {a b : Addr} {xs ys : List V} {n : Nat} (hn : n = min xs.length ys.length) : Walk (RZ.ItzT K a b) n (fun H => SqT K H a xs ∧ SqT K H b ys) (YPair (fun i => xs[i]?) (fun i => ys[i]?)) := by
  subst hn
  refine ⟨fun i _ hi q => ?_, fun _ q => ⟨xs, ys, q.1, q.2, by omega⟩, fun i H v H' _ q y => ?_⟩
  · have h1 : i < xs.length := by omega
    have h2 : i < ys.length := by omega
    exact ⟨xs, ys, xs[i], ys[i], q.1, q.2, by simp [h1], by simp [h2]⟩
  · obtain ⟨T, x, z, h1, h2, h3, h4, h5⟩ := y
    exact ⟨T, x, z, h1, h2, h3, h4 xs q.1, h5 ys q.2⟩
theorem evi_zipT {xs ys : List PyData} {elts : List Expr} {kk : Nat} {tpos : Pos} (hX : In P w K mg base k X) (g : GlAt X "zip") (hm : mg "zip" = none) (ha : Ev K X Γ Φ a (.d (.tuple xs))) (hb : Ev K X Γ Φ b (.d (.tuple ys)))
    (hs : starEach [a, b] X.env = (false, eval a X.env) :: starEach [b] X.env := by rfl) (hs2 : starEach [b] X.env = (false, eval b X.env) :: starEach [] X.env := by rfl) (hpl : (backTo pos (starEach [b] X.env)).any (·.1) = false := by rfl) :
    EvI K X Γ Φ (.Tuple elts kk tpos) (.Call (.Name "zip" p) [a, b] [] pos) (zipD xs ys) := fun σ H R hs' hp k => by
  refine PIto (RZ.pi_zipA g.1 (by rw [hX.mg]; exact hm) pa_sem hs hpl) (eva_cons ha (eva_cons hb eva_nil hs2) hs σ H _ hs' hp fun vs H1 e1 q => ?_)
  obtain ⟨v, u, rfl, q1, q2⟩ := sv2 q
  obtain ⟨p1, us, rfl, t1, r1⟩ := dp_tup q1
  obtain ⟨p2, ws, rfl, t2, r2⟩ := dp_tup q2
  rw [hX.K]
  refine ⟨p1, p2, us, ws, rfl, .inr ⟨t1, t2, k _ H1 e1 ⟨_, _, walk_zipT (xs := us) (ys := ws) (by rw [zipD_len, dps_len r1, dps_len r2]), fun H' e => ⟨same_tup e t1, same_tup e t2⟩, fun i H2 x H3 e y => ?_⟩⟩⟩
  obtain ⟨T, x1, x2, rfl, n1, rfl, y1, y2⟩ := y
  obtain ⟨d1, g1, g2⟩ := dps_getV r1 y1
  obtain ⟨d2, g3, g4⟩ := dps_getV r2 y2
  have e3 := same_new (o := .tup [x1, x2]) n1
  exact ⟨e3, _, zipD_get g1 g3, .tup (SqT.of upd_same) (.cons (dp_up (e.trans e3) g2) (.cons (dp_up (e.trans e3) g4) .nil))⟩
def enumD : Int → List PyData → List PyData
  | _, [] => []
  | i, x :: xs => .tuple [.int i, x] :: enumD (i + 1) xs
theorem enumD_len : ∀ (i : Int) (xs : List PyData), (enumD i xs).length = xs.length
  | _, [] => rfl
  | i, x :: xs => by unfold enumD; rw [List.length_cons, enumD_len, List.length_cons]
theorem enumD_get : ∀ {xs : List PyData} {i : Nat} {x : PyData} {j : Int}, xs[i]? = some x → (enumD j xs)[i]? = some (.tuple [.int (j + (i : Int)), x])
  | [], _, _, _, h => by simp at h
  | u :: xs, 0, x, j, h => by simp at h; subst h; unfold enumD; simp
  | u :: xs, i + 1, x, j, h => by
    have q := enumD_get (xs := xs) (i := i) (j := j + 1) (by simpa using h)
    unfold enumD
    have e : j + 1 + (i : Int) = j + ((i + 1 : Nat) : Int) := by omega
    rw [e] at q
    simpa using q

/-! ### targets -/
structure tGsr (X : Cx) (ts : List Expr) (vs : List V) (σ : L2.St) (H : Hp) (Q : L2.St → Hp → Prop) : Prop where
  run : ∀ pins s us, Inv X pins σ H s → Vals vs us → wpAny (model X.prog X.w) X.A (assignInOrder ((assignEach ts X.env).map (·.2)) us) (fun _ s' => ∃ σ' H', Inv X pins σ' H' s' ∧ Q σ' H') X.xe s
def tGs (X : Cx) (ts : List Expr) : TGs := fun vs σ H Q => tGsr X ts vs σ H Q
theorem pgs_sem {ts : List Expr} : PGs X ts (tGs X ts) := ⟨fun pins s _ _ _ us _ I r h => h.run pins s us I r⟩
theorem PGsto {ts : List Expr} {t : TGs} {vs : List V} {σ : L2.St} {H : Hp} {Q : L2.St → Hp → Prop} (h : PGs X ts t) (q : t vs σ H Q) : tGs X ts vs σ H Q := ⟨fun pins s us I r => h.run pins s σ H vs us Q I r q⟩
/-- the target takes d: Γ becomes Γ', all slots but own are as they were -/
def TgOk (K : PySem.W.Frag) (X : Cx) (own : List Nat) (tg : Expr) (d : PyData) (Γ Γ' : Gm) : Prop :=
  ∀ (σ : L2.St) (H : Hp) (v : V) (Q : L2.St → Hp → Prop), Slots K σ H Γ → Dp K H v d → (∀ σ', Slots K σ' H Γ' → (∀ j, j ∉ own → σ'[j]? = σ[j]?) → σ'.length = σ.length → Q σ' H) → tG X tg v σ H Q
def TgsOk (K : PySem.W.Frag) (X : Cx) (own : List Nat) (ts : List Expr) (ds : List PyData) (Γ Γ' : Gm) : Prop :=
  ∀ (σ : L2.St) (H : Hp) (vs : List V) (Q : L2.St → Hp → Prop), Slots K σ H Γ → DpAll K H vs ds → (∀ σ', Slots K σ' H Γ' → (∀ j, j ∉ own → σ'[j]? = σ[j]?) → σ'.length = σ.length → Q σ' H) → tGs X ts vs σ H Q
theorem tg_name {own : List Nat} {i : Nat} {x : Str} {d : PyData} (hN : X.N.Nodup) (hl : LocAt X i x) (ho : i ∈ own) : TgOk K X own (.Name x pos) d Γ (Γ.set i (some (.d d))) := fun σ H v Q hs hd k =>
  PGto (pg_name hN hl.1 hl.2.1 hl.2.2) (k _ (hs.set hd) (fun j hj => by rw [List.getElem?_set_ne (show i ≠ j from fun z => hj (by rw [← z]; exact ho))]) (by rw [List.length_set]))
theorem tgs_nil {own : List Nat} : TgsOk K X own [] [] Γ Γ := fun σ H vs Q hs hd k => PGsto pgs_nil (by cases hd; exact ⟨rfl, k σ hs (fun _ _ => rfl) rfl⟩)
theorem tgs_cons {own : List Nat} {d : PyData} {Γ1 : Gm} (h : TgOk K X own e d Γ Γ1) (r : TgsOk K X own es ds Γ1 Γ')
    (hs' : (assignEach (e :: es) X.env).map (·.2) = assign e X.env :: (assignEach es X.env).map (·.2) := by rfl) : TgsOk K X own (e :: es) (d :: ds) Γ Γ' := fun σ H vs Q hs hd k =>
  PGsto (pgs_cons pg_sem pgs_sem hs') (by
    cases hd with | cons h1 h2 =>
    exact ⟨_, _, rfl, h σ H _ _ hs h1 fun σ1 s1 o1 l1 => r σ1 H _ _ s1 h2 fun σ2 s2 o2 l2 => k σ2 s2 (fun j hj => (o2 j hj).trans (o1 j hj)) (l2.trans l1)⟩)
theorem tg_tup {own : List Nat} {j : Nat} {n : Nat} (hX : In P w K mg base k X) (h : TgsOk K X own es ds Γ Γ') (hl : ds.length = n) (hn : (assignEach es X.env).length = n := by rfl) (hst : (assignEach es X.env).findIdx? (·.1) = none := by rfl) : TgOk K X own (.Tuple es j pos) (.tuple ds) Γ Γ' := fun σ H v Q hs hd k => by
  obtain ⟨a, xs, rfl, q, r⟩ := dp_tup hd
  refine PGto (pg_tup hX.calm pgs_sem hn hst) ?_
  rw [hX.K]
  exact ⟨a, xs, rfl, q, (dps_len r).trans hl, h σ H xs Q hs r k⟩
theorem wipe_in : ∀ {vs : List Nat} {σ : L2.St} {i : Nat}, i ∈ vs → i < σ.length → (L2.wipe σ vs)[i]? = some none
  | [], _, _, h, _ => by cases h
  | v :: vs, σ, i, h, hl => by
    show ((L2.wipe σ vs).set v none)[i]? = some none
    by_cases q : v = i
    · subst q
      rw [List.getElem?_set_self (by rw [wipe_length]; exact hl)]
    · rw [List.getElem?_set_ne q]
      exact wipe_in ((List.mem_cons.mp h).resolve_left fun z => q z.symm) hl
theorem wipe_eq {vs : List Nat} {σ τ : L2.St} (hl : τ.length = σ.length) (h : ∀ j, j ∉ vs → τ[j]? = (L2.wipe σ vs)[j]?) : L2.wipe τ vs = L2.wipe σ vs := by
  apply List.ext_getElem?
  intro i
  by_cases hi : i ∈ vs
  · by_cases hz : i < σ.length
    · rw [wipe_in hi hz, wipe_in hi (by rw [hl]; exact hz)]
    · rw [List.getElem?_eq_none (by rw [wipe_length, hl]; omega), List.getElem?_eq_none (by rw [wipe_length]; omega)]
  · rw [wipe_out hi]
    exact h i hi
/-! ### comprehensions -/
def wipeG (Γ : Gm) (l : List Nat) : Gm := l.foldr (fun i g => g.set i none) Γ
def Bk (X : Cx) (scope : Scope) (X' : Cx) : Prop := ∃ s H C cl fp, X' = X.blk s H scope (compEnvC scope cl C X.env) fp
theorem Bk.in_ {scope : Scope} {X' : Cx} (h : Bk X scope X') (hX : In P w K mg base k X) : In P w K mg base k X' := by
  obtain ⟨s, H, C, cl, fp, rfl⟩ := h
  exact ⟨hX.prog, hX.w, hX.K, hX.mg, hX.base, hX.calm, hX.room, hX.nd⟩
structure tTsr (X : Cx) (ifs : List Expr) (σ : L2.St) (H : Hp) (Q : Bool → Hp → Prop) : Prop where
  run : ∀ pins s, Inv X pins σ H s → wpAny (model X.prog X.w) X.A (forIn ifs true fun c r => if r = true then do let ok ← isTrue c X.env (eval c X.env); pure (ForInStep.yield ok) else pure (ForInStep.yield r)) (TP X pins σ Q) X.xe s
def tTs (X : Cx) (ifs : List Expr) : TT := fun σ H Q => tTsr X ifs σ H Q
theorem pts_sem {ifs : List Expr} : PTs X ifs (tTs X ifs) := ⟨fun pins s _ _ _ I h => h.run pins s I⟩
theorem PTsto {ifs : List Expr} {t : TT} {σ : L2.St} {H : Hp} {Q : Bool → Hp → Prop} (h : PTs X ifs t) (q : t σ H Q) : tTs X ifs σ H Q := ⟨fun pins s I => h.run pins s σ H Q I q⟩
def EvTs (K : PySem.W.Frag) (X : Cx) (Γ : Gm) (Φ : MP) (ifs : List Expr) (b : Bool) : Prop :=
  ∀ (σ : L2.St) (H : Hp) (Q : Bool → Hp → Prop), Slots K σ H Γ → Φ.p H → (∀ H', Same H H' → Q b H') → tTs X ifs σ H Q
theorem evts_nil : EvTs K X Γ Φ [] true := fun σ H Q _ _ k => PTsto pts_nil (k H (Same.refl H))
theorem evts_one {x : Bool} (h : EvT K X Γ Φ c x) : EvTs K X Γ Φ [c] x := fun σ H Q hs hp k => PTsto (pts_one pt_sem) (h σ H _ hs hp k)
def gB (X : Cx) (scope : Scope) (tg : Expr) : TG := fun v σ H Q => ∀ X', Bk X scope X' → tG X' tg v σ H Q
def ttB (X : Cx) (scope : Scope) (ifs : List Expr) : TT := fun σ H Q => ∀ X', Bk X scope X' → tTs X' ifs σ H Q
def teB (X : Cx) (scope : Scope) (e : Expr) : TE := fun σ H Q => ∀ X', Bk X scope X' → tE X' e σ H Q
theorem gB_ok {scope : Scope} (s : Shared) (H : Hp) (C : Addr) (cl : List (Str × Addr)) (fp : List Addr) : PG (X.blk s H scope (compEnvC scope cl C X.env) fp) tg (gB X scope tg) := ⟨fun pins s' σ' H' v u Q I r h => (h _ ⟨s, H, C, cl, fp, rfl⟩).run pins s' u I r⟩
theorem ttB_ok {scope : Scope} {ifs : List Expr} (s : Shared) (H : Hp) (C : Addr) (cl : List (Str × Addr)) (fp : List Addr) : PTs (X.blk s H scope (compEnvC scope cl C X.env) fp) ifs (ttB X scope ifs) := ⟨fun pins s' σ' H' Q I h => (h _ ⟨s, H, C, cl, fp, rfl⟩).run pins s' I⟩
theorem teB_ok {scope : Scope} (s : Shared) (H : Hp) (C : Addr) (cl : List (Str × Addr)) (fp : List Addr) : PE (X.blk s H scope (compEnvC scope cl C X.env) fp) e (teB X scope e) := ⟨fun pins s' σ' H' Q I h => (h _ ⟨s, H, C, cl, fp, rfl⟩).run pins s' I⟩
theorem take_snoc {α : Type} {ds : List α} {i : Nat} {d : α} (h : ds[i]? = some d) : ds.take (i + 1) = ds.take i ++ [d] := by
  rw [List.take_add_one, h]; rfl
/-- what a comprehension of data reads -/
structure LcOk (K : PySem.W.Frag) (X : Cx) (Γ : Gm) (Φ : MP) (scope : Scope) (vs : List Nat) (tg it : Expr) (ifs : List Expr) (elt : Expr) (ds : List PyData) (t : PyData → Bool) (f : PyData → PyData) : Prop where
  src : EvI K X Γ Φ tg it ds
  turn : ∀ d ∈ ds, ∃ Γ', ∀ X', Bk X scope X' → TgOk K X' vs tg d (wipeG Γ vs) Γ' ∧ EvTs K X' Γ' Φ ifs (t d) ∧ (t d = true → Ev K X' Γ' Φ elt (.d (f d)))
  nl : ∀ d ∈ ds, t d = true → nl (f d) = true
  sz : ds.length ≤ 10000
theorem lc_read {scope : Scope} {vs : List Nat} {ifs : List Expr} {elt : Expr} {t : PyData → Bool} {f : PyData → PyData} (L : LcOk K X Γ Φ scope vs tg it ifs elt ds t f) (hX : In P w K mg base k X) {σ : L2.St} {H : Hp} {Q : VK} (hs : Slots K σ H Γ) (hp : Φ.p H)
    (kk : ∀ v H', Same H H' → Dp K H' v (.list ((ds.filter t).map f)) → Q v H') : tLc (tI X tg it) (gB X scope tg) (ttB X scope ifs) (teB X scope elt) vs σ H Q := by
  refine L.src σ H _ hs hp fun J H1 e1 Y => ?_
  intro D hD
  obtain ⟨G, Y, W, hG, hY⟩ := Y
  refine lc_it W (fun i H' => Same H1 H' ∧ ∃ acc, H' D = some (.lst acc) ∧ acc.length ≤ i ∧ DpAll K H' acc (((ds.take i).filter t).map f)) ⟨same_new hD, [], upd_same, Nat.le_refl _, by simp; exact .nil⟩ (fun i H' _ p => hG H' p.1) ?_ ?_
  · intro i x H2 H3 hi p y X' hb
    obtain ⟨s2, acc, hacc, hal, hdp⟩ := p
    obtain ⟨s3, d, hd, hx⟩ := hY i H2 x H3 s2 y
    have hmem : d ∈ ds := List.mem_of_getElem? hd
    obtain ⟨Γ', hT⟩ := L.turn d hmem
    have sl : Slots K (L2.wipe σ vs) H3 (wipeG Γ vs) := (hs.wipe vs).up ((e1.trans s2).trans s3)
    refine (hT X' hb).1 _ H3 x _ sl hx fun σ' sl' oth len => ?_
    refine ⟨wipe_eq (by rw [len, wipe_length]) oth, fun X2 hb2 => ?_⟩
    have e3 : Same H1 H3 := s2.trans s3
    refine (hT X2 hb2).2.1 σ' H3 _ sl' (Φ.up (e1.trans e3) hp) fun H4 s4 => ?_
    cases ht : t d with
    | false =>
      refine iteF ⟨e3.trans s4, acc, s4 _ _ (s3 _ _ hacc), by omega, ?_⟩
      rw [take_snoc hd, List.filter_append, List.map_append]
      simp only [List.filter_cons, ht, List.filter_nil, List.map_nil, List.append_nil, Bool.false_eq_true, if_false]
      exact dps_up (s3.trans s4) hdp
    | true =>
      refine iteT fun X3 hb3 => ?_
      refine (hT X3 hb3).2.2 ht σ' H4 _ (sl'.up s4) (Φ.up ((e1.trans e3).trans s4) hp) fun y H5 s5 hy => ?_
      have a5 : H5 D = some (.lst acc) := s5 _ _ (s4 _ _ (s3 _ _ hacc))
      have hz := L.sz
      have hi' : i < ds.length := hi
      refine ⟨acc, a5, by rw [sizeLine_eq]; omega, fun b o e => ?_, acc ++ [y], upd_same, by rw [List.length_append]; simp only [List.length_cons, List.length_nil]; omega, ?_⟩
      · have e5 : H5 b = some o := s5 _ _ (s4 _ _ (e3 _ _ e))
        rw [upd_ne (ne_of_none e hD)]
        exact e5
      · rw [take_snoc hd, List.filter_append, List.map_append]
        simp only [List.filter_cons, ht, List.filter_nil, List.map_cons, List.map_nil, if_true]
        have n1 : nls (((ds.take i).filter t).map f) = true := nls_all fun z hz' => by
          obtain ⟨u, hu, rfl⟩ := List.mem_map.mp hz'
          obtain ⟨hu1, hu2⟩ := List.mem_filter.mp hu
          exact L.nl u (List.mem_of_mem_take hu1) hu2
        exact dps_snoc (dps_nl (tupS_lst a5) n1 (dps_up ((s3.trans s4).trans s5) hdp)) (dp_nl (tupS_lst a5) (L.nl d hmem ht) hy)
  · intro H' p
    obtain ⟨s2, acc, hacc, _, hdp⟩ := p
    rw [List.take_length] at hdp
    exact kk _ H' (e1.trans s2) (.lst (SqL.of hacc) hdp)
theorem ev_lc {scope : Scope} {own : List (Str × Nat)} {ifs : List Expr} {elt : Expr} {t : PyData → Bool} {f : PyData → PyData} (hX : In P w K mg base k X) (ok : BlkOk X.N X.env.scope scope own)
    (L : LcOk K X Γ Φ scope (own.map (·.2)) tg it ifs elt ds t f) (hf : ∀ x, foldedSetIterable it X.env x = pure x := by intro _; rfl) : Ev K X Γ Φ (.ListComp elt [⟨tg, it, ifs, 0⟩] scope pos) (.d (.list ((ds.filter t).map f))) := fun σ H Q hs hp kk =>
  PEto (pe_lc hX.calm hX.nd pi_sem ok gB_ok ttB_ok teB_ok hf) (lc_read L hX hs hp kk)

/-! ### statements -/
inductive Out where
  | nx (Γ : Gm)
  | rt (s : Sv)
def Out.ok (K : PySem.W.Frag) (D : Ends) (H : Hp) : Out → Prop
  | .nx Γ => ∀ σ' H', Same H H' → Slots K σ' H' Γ → D.nx σ' H'
  | .rt s => ∀ v H', Same H H' → s.ok K H' v → D.rt v H'
theorem Out.up {D : Ends} {H H' : Hp} (e : Same H H') : ∀ {o : Out}, o.ok K D H → o.ok K D H'
  | .nx _, h => fun σ' H2 e2 => h σ' H2 (e.trans e2)
  | .rt _, h => fun v H2 e2 => h v H2 (e.trans e2)
def RunS (K : PySem.W.Frag) (X : Cx) (Γ : Gm) (Φ : MP) (st : Stmt) (o : Out) : Prop := ∀ (σ : L2.St) (H : Hp) (D : Ends), Slots K σ H Γ → Φ.p H → o.ok K D H → tS X st D σ H
def Run (K : PySem.W.Frag) (X : Cx) (Γ : Gm) (Φ : MP) (sts : List Stmt) (o : Out) : Prop := ∀ (σ : L2.St) (H : Hp) (D : Ends), Slots K σ H Γ → Φ.p H → o.ok K D H → tB X sts D σ H
variable {st : Stmt} {sts bd el : List Stmt} {o : Out}
theorem Run.to {o' : Out} (h : Run K X Γ Φ sts o) (q : o = o') : Run K X Γ Φ sts o' := q ▸ h
theorem RunS.to {o' : Out} (h : RunS K X Γ Φ st o) (q : o = o') : RunS K X Γ Φ st o' := q ▸ h
theorem run_nil : Run K X Γ Φ [] (.nx Γ) := fun σ H D hs _ k => PBto pss_nil (k σ H (Same.refl H) hs)
theorem run_cons (h : RunS K X Γ Φ st (.nx Γ')) (r : Run K X Γ' Φ sts o) : Run K X Γ Φ (st :: sts) o := fun σ H D hs hp k =>
  PBto (pss_cons ps_sem pb_sem) (h σ H _ hs hp fun σ' H' e s' => r σ' H' D s' (Φ.up e hp) (Out.up e k))
theorem run_end (h : RunS K X Γ Φ st (.rt s)) : Run K X Γ Φ (st :: sts) (.rt s) := fun σ H D hs hp k =>
  PBto (pss_cons ps_sem (pb_sem (sts := sts))) (h σ H _ hs hp k)
theorem run_one (h : RunS K X Γ Φ st o) : Run K X Γ Φ [st] o := fun σ H D hs hp k => PBto (pss_one ps_sem) (h σ H D hs hp k)
theorem runS_if {x : Bool} (h : EvT K X Γ Φ c x) (h1 : x = true → Run K X Γ Φ bd o) (h2 : x = false → Run K X Γ Φ el o) : RunS K X Γ Φ (.If c bd el pos) o := fun σ H D hs hp k =>
  PSto (ps_if pt_sem pb_sem pb_sem) (h σ H _ hs hp fun H1 e1 => by
    cases x with
    | true => exact iteT (h1 rfl σ H1 D (hs.up e1) (Φ.up e1 hp) (Out.up e1 k))
    | false => exact iteF (h2 rfl σ H1 D (hs.up e1) (Φ.up e1 hp) (Out.up e1 k)))
/-- if c: return ..; the rest -/
theorem run_guard {x : Bool} (h : EvT K X Γ Φ c x) (h1 : x = true → Run K X Γ Φ bd (.rt s)) (h2 : x = false → Run K X Γ Φ sts (.rt s)) : Run K X Γ Φ (.If c bd [] pos :: sts) (.rt s) := by
  cases x with
  | true => exact run_end (runS_if h h1 fun z => nomatch z)
  | false => exact run_cons (runS_if (o := .nx Γ) h (fun z => nomatch z) fun _ => run_nil) (h2 rfl)
theorem run_no (h : EvT K X Γ Φ c false) (r : Run K X Γ Φ sts o) : Run K X Γ Φ (.If c bd [] pos :: sts) o := run_cons (runS_if (o := .nx Γ) h (fun z => nomatch z) fun _ => run_nil) r
theorem runS_ret (h : Ev K X Γ Φ e s) : RunS K X Γ Φ (.Return (some e) pos) (.rt s) := fun σ H D hs hp k => PSto (ps_ret pe_sem) (h σ H _ hs hp k)
theorem runS_expr (h : Ev K X Γ Φ e s) (hw : swapsWith e none pos.line X.env = pure false := by rfl) : RunS K X Γ Φ (.Expr e pos) (.nx Γ) := fun σ H D hs hp k => PSto (ps_expr pe_sem hw) (h σ H _ hs hp fun v H' e1 _ => k σ H' e1 (hs.up e1))
theorem runS_set {i : Nat} {x : Str} {px : Pos} (hX : In P w K mg base k X) (hl : LocAt X i x) (h : Ev K X Γ Φ e s) (hw : swapsWith e (some (.Name x px)) pos.line X.env = pure false := by rfl) : RunS K X Γ Φ (.Assign [.Name x px] e pos) (.nx (Γ.set i (some s))) := fun σ H D hs hp k =>
  PSto (ps_set hX.nd hl.1 hl.2.1 pe_sem hw hl.2.2) (h σ H _ hs hp fun v H' e1 h1 => k _ H' e1 ((hs.up e1).set h1))
theorem runS_setLc {i : Nat} {x : Str} {px : Pos} {scope : Scope} {own : List (Str × Nat)} {ifs : List Expr} {elt : Expr} {t : PyData → Bool} {f : PyData → PyData} {lpos : Pos} (hX : In P w K mg base k X) (hN : X.N[i]? = some x) (hl : X.env.scope.names.lookup x = some .local) (ok : BlkOk X.N X.env.scope scope own)
    (L : LcOk K X Γ Φ scope (own.map (·.2)) tg it ifs elt ds t f) (hw : swapsWith (.ListComp elt [⟨tg, it, ifs, 0⟩] scope lpos) (some (.Name x px)) pos.line X.env = pure true) (hf : ∀ x, foldedSetIterable it X.env x = pure x := by intro _; rfl) :
    RunS K X Γ Φ (.Assign [.Name x px] (.ListComp elt [⟨tg, it, ifs, 0⟩] scope lpos) pos) (.nx (Γ.set i (some (.d (.list ((ds.filter t).map f)))))) := fun σ H D hs hp kk =>
  PSto (ps_setLc hX.calm hX.nd hN hl hw pi_sem ok gB_ok ttB_ok teB_ok hf) (lc_read L hX hs hp fun v H' e1 h1 => kk _ H' e1 ((hs.up e1).set h1))
/-- targets of any form -/
theorem runS_unp {own : List Nat} {d : PyData} (h : Ev K X Γ Φ e (.d d)) (ht : TgOk K X own tg d Γ Γ') (hs' : swapsWithSole [tg] e pos.line X.env = pure false := by rfl) (hw : swappedStores [tg] e X.env = pure none := by rfl)
    (h1 : (assignEach [tg] X.env).map (·.2) = [assign tg X.env] := by rfl) : RunS K X Γ Φ (.Assign [tg] e pos) (.nx Γ') := fun σ H D hs hp k =>
  PSto (ps_asg pe_sem pg_sem hs' hw h1) (h σ H _ hs hp fun v H' e1 q => ht σ H' v _ (hs.up e1) q fun σ' s' _ _ => k σ' H' e1 s')
/-- a, b = x, y -/
theorem runS_par {i j : Nat} {x y : Str} {px py pt : Pos} {kt k2 : Nat} {pt2 : Pos} (hX : In P w K mg base k X) (hi : X.N[i]? = some x) (hj : X.N[j]? = some y) (hij : i ≠ j) (hx : X.env.scope.names.lookup x = some .local) (hy : X.env.scope.names.lookup y = some .local)
    (h : EvA K X Γ Φ [a, b] [s, t]) (hw : swappedStores [.Tuple [.Name x px, .Name y py] kt pt] (.Tuple [a, b] k2 pt2) X.env = pure (some [x, y])) (hs' : swapsWithSole [.Tuple [.Name x px, .Name y py] kt pt] (.Tuple [a, b] k2 pt2) pos.line X.env = pure false := by rfl) :
    RunS K X Γ Φ (.Assign [.Tuple [.Name x px, .Name y py] kt pt] (.Tuple [a, b] k2 pt2) pos) (.nx ((Γ.set i (some s)).set j (some t))) := fun σ H D hs hp kk =>
  PSto (ps_par hX.calm hX.nd hi hj hij hx hy pa_sem hw hs') (h σ H _ hs hp fun vs H' e1 h1 => by
    obtain ⟨v, u, rfl, q1, q2⟩ := sv2 h1
    exact ⟨v, u, rfl, kk _ H' e1 (((hs.up e1).set q1).set q2)⟩)
theorem runS_aug {i : Nat} {x : Str} {px : Pos} {m n : Int} (hX : In P w K mg base k X) (hl : LocAt X i x) (hg : Γ[i]? = some (some (.d (.int m)))) (h : Ev K X Γ Φ e (.d (.int n))) : RunS K X Γ Φ (.AugAssign (.Name x px) .Add e pos) (.nx (Γ.set i (some (.d (.int (m + n)))))) := fun σ H D hs hp kk => by
  obtain ⟨v, e1, e2⟩ := hs.2 i _ hg
  refine PSto (ps_aug hX.nd hl.1 hl.2.1 pe_sem ip_add hl.2.2) ⟨v, e1, h σ H _ hs hp fun u H' e3 h3 => ⟨m, n, dp_int e2, dp_int h3, kk _ H' e3 ((hs.up e3).set (.int _))⟩⟩
/-! for over data -/
/-- every slot that Γ' knows is known alike by Γ -/
def Sub (Γ' Γ : Gm) : Prop := Γ'.length = Γ.length ∧ ∀ (i : Nat) (s : Sv), Γ'[i]? = some (some s) → Γ[i]? = some (some s)
theorem Slots.sub {σ : L2.St} {H : Hp} (h : Slots K σ H Γ) (q : Sub Γ' Γ) : Slots K σ H Γ' := ⟨h.1.trans q.1.symm, fun i s e => h.2 i s (q.2 i s e)⟩
theorem run_weak (h : Sub Γ' Γ) (r : Run K X Γ' Φ sts o) : Run K X Γ Φ sts o := fun σ H D hs hp k => r σ H D (hs.sub h) hp k
theorem runS_for {own : List Nat} (hX : In P w K mg base k X) (hi : EvI K X Γ Φ tg it ds) (Γs : Nat → Gm) (h0 : Sub (Γs 0) Γ)
    (turn : ∀ i d, ds[i]? = some d → ∃ Γt, TgOk K X own tg d (Γs i) Γt ∧ Run K X Γt Φ bd (.nx (Γs (i + 1)))) (hp' : PassesOwn (model X.prog X.w) X.A X.env X.xe) (hf : ∀ x, foldedSetIterable it X.env x = pure x := by intro _; rfl) :
    RunS K X Γ Φ (.For tg it bd [] pos) (.nx (Γs ds.length)) := fun σ H D hs hp kk => by
  refine PSto (ps_for hp' hX.calm pi_sem pg_sem pb_sem hf) (hi σ H _ hs hp fun J H1 e1 Y => ?_)
  obtain ⟨G, Y, W, hG, hY⟩ := Y
  refine for_it W (fun i σ' H' => Same H1 H' ∧ Slots K σ' H' (Γs i)) ⟨Same.refl _, (hs.up e1).sub h0⟩ (fun i σ' H' _ p => hG H' p.1) ?_ ?_
  · intro i x σ2 H2 H3 hi2 p y
    obtain ⟨s2, sl⟩ := p
    obtain ⟨s3, d, hd, hx⟩ := hY i H2 x H3 s2 y
    obtain ⟨Γt, hT, hR⟩ := turn i d hd
    refine hT σ2 H3 x _ (sl.up s3) hx fun σ' sl' _ _ => ?_
    exact hR σ' H3 _ sl' (Φ.up ((e1.trans s2).trans s3) hp) fun σ4 H4 s4 sl4 => ⟨(s2.trans s3).trans s4, sl4⟩
  · intro σ' H' p
    exact kk σ' H' (e1.trans p.1) p.2
/-- it returns at turn j -/
theorem runS_forR {own : List Nat} {j : Nat} (hX : In P w K mg base k X) (hi : EvI K X Γ Φ tg it ds) (Γs : Nat → Gm) (h0 : Sub (Γs 0) Γ) (hj : j < ds.length)
    (turn : ∀ i d, ds[i]? = some d → i < j → ∃ Γt, TgOk K X own tg d (Γs i) Γt ∧ Run K X Γt Φ bd (.nx (Γs (i + 1)))) (last : ∀ d, ds[j]? = some d → ∃ Γt, TgOk K X own tg d (Γs j) Γt ∧ Run K X Γt Φ bd (.rt s))
    (hp' : PassesOwn (model X.prog X.w) X.A X.env X.xe) (hf : ∀ x, foldedSetIterable it X.env x = pure x := by intro _; rfl) :
    RunS K X Γ Φ (.For tg it bd [] pos) (.rt s) := fun σ H D hs hp kk => by
  refine PSto (ps_for hp' hX.calm pi_sem pg_sem pb_sem hf) (hi σ H _ hs hp fun J H1 e1 Y => ?_)
  obtain ⟨G, Y, W, hG, hY⟩ := Y
  refine for_it W (fun i σ' H' => i ≤ j ∧ Same H1 H' ∧ Slots K σ' H' (Γs i)) ⟨Nat.zero_le _, Same.refl _, (hs.up e1).sub h0⟩ (fun i σ' H' _ p => hG H' p.2.1) ?_ ?_
  · intro i x σ2 H2 H3 hi2 p y
    obtain ⟨hij, s2, sl⟩ := p
    obtain ⟨s3, d, hd, hx⟩ := hY i H2 x H3 s2 y
    by_cases q : i < j
    · obtain ⟨Γt, hT, hR⟩ := turn i d hd q
      refine hT σ2 H3 x _ (sl.up s3) hx fun σ' sl' _ _ => ?_
      exact hR σ' H3 _ sl' (Φ.up ((e1.trans s2).trans s3) hp) fun σ4 H4 s4 sl4 => ⟨q, (s2.trans s3).trans s4, sl4⟩
    · have e : i = j := by omega
      subst e
      obtain ⟨Γt, hT, hR⟩ := last d hd
      refine hT σ2 H3 x _ (sl.up s3) hx fun σ' sl' _ _ => ?_
      exact hR σ' H3 _ sl' (Φ.up ((e1.trans s2).trans s3) hp) fun v H4 s4 h4 => kk v H4 (((e1.trans s2).trans s3).trans s4) h4
  · intro σ' H' p
    exact absurd p.1 (by omega)

/-! ### defs of data -/
/-- R: what the def gives of what -/
def spF (K : PySem.W.Frag) (R : List PyData → PyData → Prop) : Sp := fun vs H Q _ => ∃ ds d, DpAll K H vs ds ∧ R ds d ∧ ∀ v H', Same H H' → Dp K H' v d → Q v H'
/-- the def x of the module, at most level j -/
def PFn (P : Program) (w : World) (K : PySem.W.Frag) (mg : Str → Option Value) (base : Heap) (j : Nat) (x : Str) (R : List PyData → PyData → Prop) : Prop :=
  ∃ (f : Addr) (fd : FuncData) (ps : List Str), mg x = some (.ref f) ∧ PySem.W.keepIn K (.ref f) = true ∧ Binds K fd ps [] ∧ FnOk P w K mg base CX0 j f fd ps (spF K R)
theorem ev_call {x : Str} {j : Nat} {R : List PyData → PyData → Prop} {d : PyData} (hX : In P w K mg base k X) (F : PFn P w K mg base j x R) (g : GlAt X x) (hj : j ≤ k) (ha : EvA K X Γ Φ (e :: es) (ds.map Sv.d)) (hR : R ds d)
    (he : starEach (e :: es) X.env = (false, eval e X.env) :: starEach es X.env := by rfl) (hpl : (backTo pos (starEach es X.env)).any (·.1) = false := by rfl) : Ev K X Γ Φ (.Call (.Name x p) (e :: es) [] pos) (.d d) := fun σ H Q hs hp kk => by
  obtain ⟨f, fd, ps, hm, kp, hb, F⟩ := F
  have F' : FnOk X.prog X.w X.K X.mg X.base CX0 j f fd ps (spF K R) := by rw [hX.prog, hX.w, hX.K, hX.mg, hX.base]; exact F
  refine PEto (pe_call F' (hX.room.mono hj) g.1 (by rw [hX.mg]; exact hm) (by rw [hX.K]; exact kp) (by rw [hX.K]; exact hb) .nil pass0 pa_sem g.2.1 he hpl) (ha σ H _ hs hp fun vs H1 e1 h1 => ?_)
  show spF K R (vs ++ []) H1 Q E0
  rw [List.append_nil]
  exact ⟨ds, d, SvAll.ds h1, hR, fun v H' e2 h2 => kk v H' (e1.trans e2) h2⟩
/-- the slots at a def's entry -/
def startG (N : List Str) (ds : List PyData) : Gm := (ds.map fun d => some (Sv.d d)) ++ List.replicate (N.length - ds.length) none
theorem start_slots {N : List Str} : ∀ {vs : List V} {H : Hp} {ds : List PyData}, DpAll K H vs ds → Slots K (L2.start N vs) H (startG N ds) := fun {vs H ds} h => by
  have hl := dps_len h
  refine ⟨by unfold L2.start startG; simp [hl], fun i s e => ?_⟩
  unfold startG at e
  unfold L2.start
  by_cases hi : i < ds.length
  · rw [List.getElem?_append_left (by simpa using hi), List.getElem?_map] at e
    cases q : ds[i]? with
    | none => rw [q] at e; cases e
    | some d =>
      rw [q] at e
      have e' : s = Sv.d d := by
        have z : some (some (Sv.d d)) = some (some s) := e
        exact (Option.some.inj (Option.some.inj z)).symm
      subst e'
      obtain ⟨v, v1, v2⟩ := dps_get h q
      exact ⟨v, by rw [List.getElem?_append_left (by simp; omega), List.getElem?_map, v1]; rfl, v2⟩
  · rw [List.getElem?_append_right (by simpa using hi), List.getElem?_replicate] at e
    split at e <;> cases e
theorem nm_in {N : List Str} {qual : Str} {sc : Scope} {f : Addr} {cdv : Value} {A : Around} {outer : List Env} {s : Shared} {H : Hp} {E : XK} {CXx : CXT} (hr : Room k (A.deeper (envOfC qual sc s.heap.objs.size f cdv))) (nd : N.Nodup) : In P w K mg base k (cxOf CXx P w K mg base N qual sc f cdv A outer s H E) :=
  ⟨rfl, rfl, rfl, rfl, rfl, rfl, hr, nd⟩
theorem nm_inX {N : List Str} {qual : Str} {sc : Scope} {f : Addr} {cdv : Value} {A : Around} {outer : List Env} {s : Shared} {H : Hp} {E : XK} {CXx : CXT} (hr : Room k (A.deeper (envOfC qual sc s.heap.objs.size f cdv))) (nd : N.Nodup) : In P w K mg base k (cxOf CXx P w K mg base N qual sc f cdv A outer s H E).nox :=
  ⟨rfl, rfl, rfl, rfl, rfl, rfl, hr, nd⟩
/-- the names of a body -/
structure Nm (N : List Str) (sc : Scope) (X : Cx) : Prop where
  N : X.N = N
  sc : X.env.scope = sc
  fn : ∀ x, X.fn x = true
  pas : PassesOwn (model X.prog X.w) X.A X.env X.xe
def visB (sc : Scope) (x : Str) : Bool := match sc.names.lookup x with
  | some .local => true
  | some .cell => true
  | some .free => true
  | _ => false
def locB (sc : Scope) (x : Str) : Bool := match sc.names.lookup x with
  | some .local => true
  | some .cell => true
  | _ => false
def tabB (N : List Str) (sc : Scope) (vs : List (Nat × Str)) (gs : List Str) : Bool :=
  (vs.all fun p => decide (N[p.1]? = some p.2) && (locB sc p.2 && (!(p.2 == ("__debug__" : Str)) && !(p.2 == ("__classdict__" : Str))))) && gs.all fun x => decide (sc.names.lookup x = some .globalImplicit) && (!(x == ("__debug__" : Str)) && decide (x ≠ "__name__"))
theorem tab_loc {N : List Str} {sc : Scope} {vs : List (Nat × Str)} {gs : List Str} (T : tabB N sc vs gs = true) (h : Nm N sc X) (j : Nat) {i : Nat} {x : Str} (e : vs[j]? = some (i, x)) : VarAt X i x ∧ LocAt X i x := by
  have h1 := List.all_eq_true.mp (Bool.and_eq_true_iff.mp T).1 _ (List.mem_of_getElem? e)
  obtain ⟨q1, h2⟩ := Bool.and_eq_true_iff.mp h1
  obtain ⟨q2, h3⟩ := Bool.and_eq_true_iff.mp h2
  obtain ⟨q3, q4⟩ := Bool.and_eq_true_iff.mp h3
  have n1 := of_decide_eq_true q1
  have l : Loc sc x := by
    unfold locB at q2
    split at q2
    · rename_i z; exact .inl z
    · rename_i z; exact .inr z
    · cases q2
  have e3 : (x == ("__debug__" : Str)) = false := by simpa using q3
  have e4 : (x == ("__classdict__" : Str)) = false := by simpa using q4
  refine ⟨⟨by rw [h.N]; exact n1, by rw [h.sc]; exact l.elim .inl fun z => .inr (.inl z), e3, e4⟩, by rw [h.N]; exact n1, by rw [h.sc]; exact l, .inl (h.fn x)⟩
theorem tab_glo {N : List Str} {sc : Scope} {vs : List (Nat × Str)} {gs : List Str} (T : tabB N sc vs gs = true) (h : Nm N sc X) (j : Nat) {x : Str} (e : gs[j]? = some x) : GlAt X x := by
  have h1 := List.all_eq_true.mp (Bool.and_eq_true_iff.mp T).2 _ (List.mem_of_getElem? e)
  obtain ⟨q1, h2⟩ := Bool.and_eq_true_iff.mp h1
  obtain ⟨q2, q3⟩ := Bool.and_eq_true_iff.mp h2
  refine ⟨?_, by simpa using q2, of_decide_eq_true q3⟩
  show X.env.scope.names.lookup x = some .globalImplicit
  rw [h.sc]
  exact of_decide_eq_true q1
/-- the names of a comprehension's block -/
def btabB (N : List Str) (sc scope : Scope) (own : List (Str × Nat)) (os : List (Nat × Str)) (vs : List (Nat × Str)) (gs : List Str) : Bool :=
  blkC N sc scope own && ((os.all fun p => decide (N[p.1]? = some p.2) && (decide ((relS scope sc).names.lookup p.2 = some .local) && (!(p.2 == ("__debug__" : Str)) && !(p.2 == ("__classdict__" : Str))))) &&
    ((vs.all fun p => decide (N[p.1]? = some p.2) && (visB (relS scope sc) p.2 && (!(p.2 == ("__debug__" : Str)) && !(p.2 == ("__classdict__" : Str))))) &&
      gs.all fun x => decide ((relS scope sc).names.lookup x = some .globalImplicit) && (!(x == ("__debug__" : Str)) && decide (x ≠ "__name__"))))
theorem btab_ok {N : List Str} {sc scope : Scope} {own : List (Str × Nat)} {os vs : List (Nat × Str)} {gs : List Str} (T : btabB N sc scope own os vs gs = true) (h : Nm N sc X) : BlkOk X.N X.env.scope scope own := by
  rw [h.N, h.sc]
  exact blkOk_by (Bool.and_eq_true_iff.mp T).1
theorem btab_own {N : List Str} {sc scope : Scope} {own : List (Str × Nat)} {os vs : List (Nat × Str)} {gs : List Str} (T : btabB N sc scope own os vs gs = true) (h : Nm N sc X) {X' : Cx} (hb : Bk X scope X') (j : Nat) {i : Nat} {x : Str} (e : os[j]? = some (i, x)) : VarAt X' i x ∧ LocAt X' i x := by
  obtain ⟨s, H, C, cl, fp, rfl⟩ := hb
  have h1 := List.all_eq_true.mp (Bool.and_eq_true_iff.mp (Bool.and_eq_true_iff.mp T).2).1 _ (List.mem_of_getElem? e)
  obtain ⟨q1, h2⟩ := Bool.and_eq_true_iff.mp h1
  obtain ⟨q2, h3⟩ := Bool.and_eq_true_iff.mp h2
  obtain ⟨q3, q4⟩ := Bool.and_eq_true_iff.mp h3
  have n1 := of_decide_eq_true q1
  have l := of_decide_eq_true q2
  have e3 : (x == ("__debug__" : Str)) = false := by simpa using q3
  have e4 : (x == ("__classdict__" : Str)) = false := by simpa using q4
  have l' : (relS scope X.env.scope).names.lookup x = some .local := by rw [h.sc]; exact l
  have n' : X.N[i]? = some x := by rw [h.N]; exact n1
  exact ⟨⟨n', .inl l', e3, e4⟩, n', .inl l', .inr l'⟩
theorem btab_var {N : List Str} {sc scope : Scope} {own : List (Str × Nat)} {os vs : List (Nat × Str)} {gs : List Str} (T : btabB N sc scope own os vs gs = true) (h : Nm N sc X) {X' : Cx} (hb : Bk X scope X') (j : Nat) {i : Nat} {x : Str} (e : vs[j]? = some (i, x)) : VarAt X' i x := by
  obtain ⟨s, H, C, cl, fp, rfl⟩ := hb
  have h1 := List.all_eq_true.mp (Bool.and_eq_true_iff.mp (Bool.and_eq_true_iff.mp (Bool.and_eq_true_iff.mp T).2).2).1 _ (List.mem_of_getElem? e)
  obtain ⟨q1, h2⟩ := Bool.and_eq_true_iff.mp h1
  obtain ⟨q2, h3⟩ := Bool.and_eq_true_iff.mp h2
  obtain ⟨q3, q4⟩ := Bool.and_eq_true_iff.mp h3
  have n1 := of_decide_eq_true q1
  have l : Vis (relS scope sc) x := by
    unfold visB at q2
    split at q2
    · rename_i z; exact .inl z
    · rename_i z; exact .inr (.inl z)
    · rename_i z; exact .inr (.inr z)
    · cases q2
  refine ⟨by show X.N[i]? = some x; rw [h.N]; exact n1, ?_, by simpa using q3, by simpa using q4⟩
  show Vis (relS scope X.env.scope) x
  rw [h.sc]; exact l
theorem btab_glo {N : List Str} {sc scope : Scope} {own : List (Str × Nat)} {os vs : List (Nat × Str)} {gs : List Str} (T : btabB N sc scope own os vs gs = true) (h : Nm N sc X) {X' : Cx} (hb : Bk X scope X') (j : Nat) {x : Str} (e : gs[j]? = some x) : GlAt X' x := by
  obtain ⟨s, H, C, cl, fp, rfl⟩ := hb
  have h1 := List.all_eq_true.mp (Bool.and_eq_true_iff.mp (Bool.and_eq_true_iff.mp (Bool.and_eq_true_iff.mp T).2).2).2 _ (List.mem_of_getElem? e)
  obtain ⟨q1, h2⟩ := Bool.and_eq_true_iff.mp h1
  obtain ⟨q2, q3⟩ := Bool.and_eq_true_iff.mp h2
  refine ⟨?_, by simpa using q2, of_decide_eq_true q3⟩
  show (relS scope X.env.scope).names.lookup x = some .globalImplicit
  rw [h.sc]
  exact of_decide_eq_true q1
/-- THE RULE for a def of data -/
theorem pfn_mk {x : Str} {st : Stmt} {f : Addr} {fd : FuncData} {N ps : List Str} {R : List PyData → PyData → Prop} (F : Fun K x x st f fd) (S : FnScope N ps (defScope st)) (hb : Binds K fd ps []) (hm : mg x = some (.ref f)) (hl : ∀ ds d, R ds d → ds.length = ps.length)
    (body : ∀ X, In P w K mg base k X → Nm N (defScope st) X → ∀ ds d, R ds d → Run K X (startG N ds) MP.top (defBody st) (.rt (.d d))) : PFn P w K mg base (k + 1) x R := by
  refine ⟨f, fd, ps, hm, F.kp, hb, F.ok S (fun vs H Q E h => ?_) fun cdv A outer s H vs Q E hr h => ?_⟩
  · obtain ⟨ds, d, h1, h2, _⟩ := h
    exact (dps_len h1).trans (hl ds d h2)
  · obtain ⟨ds, d, h1, h2, h3⟩ := h
    refine ⟨_, pb_sem, ?_⟩
    exact body _ (nm_inX hr S.nd) ⟨rfl, rfl, fun _ => rfl, PassesOwn.never⟩ ds d h2 (L2.start N vs) H _ (start_slots h1) trivial h3
end
end BL
end

section
set_option Elab.async false
set_option linter.all false
set_option maxRecDepth 100000
set_option maxHeartbeats 4000000
/-! BLt: the text by places: each def's names. Printed by gent.py. -/
namespace BL
open PySem PySem.Spec PyProof.Rows L2
def top (i : Nat) : Stmt := PySem.Challenge.pw_booklimits_k93_whole_trials_and_copies.main.body.getD i (.Pass ⟨0, 0, 0, 0⟩)

/-! BadCall.__init__ -/
abbrev s_BadCall___init : Stmt := inClass (top 4) 0
abbrev n_BadCall___init : List Str := ["self", "place"]
/-! is_whole -/
abbrev s_is_whole : Stmt := top 25
abbrev n_is_whole : List Str := ["value", "least", "most"]
theorem sc_is_whole : FnScope n_is_whole ["value", "least", "most"] (defScope s_is_whole) := ⟨rfl, rfl, rfl, by decide +kernel, rfl, by decide +kernel, by decide +kernel⟩
theorem tb_is_whole : tabB n_is_whole (defScope s_is_whole) [(0, "value"), (1, "least"), (2, "most")] ["isinstance", "int", "bool"] = true := by decide +kernel
/-! need_hall -/
abbrev s_need_hall : Stmt := top 26
abbrev n_need_hall : List Str := ["hall", "fare", "one", "other"]
theorem sc_need_hall : FnScope n_need_hall ["hall"] (defScope s_need_hall) := ⟨rfl, rfl, rfl, by decide +kernel, rfl, by decide +kernel, by decide +kernel⟩
theorem tb_need_hall : tabB n_need_hall (defScope s_need_hall) [(0, "hall")] ["isinstance", "tuple", "len", "BadHall", "is_whole", "MOST_SEATS", "MOST_FARES", "all", "zip"] = true := by decide +kernel
/-! are_limits -/
abbrev s_are_limits : Stmt := top 27
abbrev n_are_limits : List Str := ["hall", "value", "limit"]
theorem sc_are_limits : FnScope n_are_limits ["hall", "value"] (defScope s_are_limits) := ⟨rfl, rfl, rfl, by decide +kernel, rfl, by decide +kernel, by decide +kernel⟩
theorem tb_are_limits : tabB n_are_limits (defScope s_are_limits) [(0, "hall"), (1, "value")] ["isinstance", "tuple", "len", "all"] = true := by decide +kernel
/-! is_plain -/
abbrev s_is_plain : Stmt := top 28
abbrev n_is_plain : List Str := ["hall", "value", "one", "other"]
theorem sc_is_plain : FnScope n_is_plain ["hall", "value"] (defScope s_is_plain) := ⟨rfl, rfl, rfl, by decide +kernel, rfl, by decide +kernel, by decide +kernel⟩
theorem tb_is_plain : tabB n_is_plain (defScope s_is_plain) [(0, "hall"), (1, "value")] ["len", "are_limits", "NESTED", "all", "zip"] = true := by decide +kernel
/-! is_word -/
abbrev s_is_word : Stmt := top 29
abbrev n_is_word : List Str := ["hall", "value", "is_outside"]
theorem sc_is_word : FnScope n_is_word ["hall", "value", "is_outside"] (defScope s_is_word) := ⟨rfl, rfl, rfl, by decide +kernel, rfl, by decide +kernel, by decide +kernel⟩
theorem tb_is_word : tabB n_is_word (defScope s_is_word) [(0, "hall"), (1, "value"), (2, "is_outside")] ["isinstance", "tuple", "str", "APART", "NESTED", "KEPT", "is_plain", "ALL", "ANY", "len", "OUST", "is_whole", "MOST_FEE"] = true := by decide +kernel
/-! parts_of -/
abbrev s_parts_of : Stmt := top 30
abbrev n_parts_of : List Str := ["rule"]
theorem sc_parts_of : FnScope n_parts_of ["rule"] (defScope s_parts_of) := ⟨rfl, rfl, rfl, by decide +kernel, rfl, by decide +kernel, by decide +kernel⟩
theorem tb_parts_of : tabB n_parts_of (defScope s_parts_of) [(0, "rule")] ["ALL", "ANY", "OUST"] = true := by decide +kernel
/-! need_rule -/
abbrev s_need_rule : Stmt := top 31
abbrev n_need_rule : List Str := ["hall", "rule", "waiting", "many", "here", "path", "spot"]
theorem sc_need_rule : FnScope n_need_rule ["hall", "rule"] (defScope s_need_rule) := ⟨rfl, rfl, rfl, by decide +kernel, rfl, by decide +kernel, by decide +kernel⟩
theorem tb_need_rule : tabB n_need_rule (defScope s_need_rule) [(0, "hall"), (1, "rule"), (2, "waiting"), (3, "many"), (4, "here"), (5, "path")] ["need_hall", "MOST_WORDS", "len", "MOST_DEEP", "is_word", "BadRule", "parts_of"] = true := by decide +kernel
/-! lets_plain -/
abbrev s_lets_plain : Stmt := top 32
abbrev n_lets_plain : List Str := ["hall", "rule", "sold", "fare", "word", "limits", "last"]
theorem sc_lets_plain : FnScope n_lets_plain ["hall", "rule", "sold", "fare"] (defScope s_lets_plain) := ⟨rfl, rfl, rfl, by decide +kernel, rfl, by decide +kernel, by decide +kernel⟩
theorem tb_lets_plain : tabB n_lets_plain (defScope s_lets_plain) [(0, "hall"), (1, "rule"), (2, "sold"), (3, "fare"), (4, "word"), (5, "limits")] ["APART", "KEPT", "sum", "all", "range", "len"] = true := by decide +kernel
/-! lets_of -/
abbrev s_lets_of : Stmt := top 33
abbrev n_lets_of : List Str := ["hall", "rule", "sold", "fare"]
theorem sc_lets_of : FnScope n_lets_of ["hall", "rule", "sold", "fare"] (defScope s_lets_of) := ⟨rfl, rfl, rfl, by decide +kernel, rfl, by decide +kernel, by decide +kernel⟩
theorem tb_lets_of : tabB n_lets_of (defScope s_lets_of) [(0, "hall"), (1, "rule"), (2, "sold"), (3, "fare")] ["ALL", "lets_of", "ANY", "OUST", "lets_plain"] = true := by decide +kernel
/-! none_of -/
abbrev s_none_of : Stmt := top 39
abbrev n_none_of : List Str := ["hall"]
theorem sc_none_of : FnScope n_none_of ["hall"] (defScope s_none_of) := ⟨rfl, rfl, rfl, by decide +kernel, rfl, by decide +kernel, by decide +kernel⟩
theorem tb_none_of : tabB n_none_of (defScope s_none_of) [(0, "hall")] ["len"] = true := by decide +kernel
/-! with_more -/
abbrev s_with_more : Stmt := top 40
abbrev n_with_more : List Str := ["counts", "number", "more"]
theorem sc_with_more : FnScope n_with_more ["counts", "number", "more"] (defScope s_with_more) := ⟨rfl, rfl, rfl, by decide +kernel, rfl, by decide +kernel, by decide +kernel⟩
theorem tb_with_more : tabB n_with_more (defScope s_with_more) [(0, "counts"), (1, "number"), (2, "more")] [] = true := by decide +kernel
/-! cheapest_sold -/
abbrev s_cheapest_sold : Stmt := top 41
abbrev n_cheapest_sold : List Str := ["sold", "some", "number", "many"]
theorem sc_cheapest_sold : FnScope n_cheapest_sold ["sold"] (defScope s_cheapest_sold) := ⟨rfl, rfl, rfl, by decide +kernel, rfl, by decide +kernel, by decide +kernel⟩
theorem tb_cheapest_sold : tabB n_cheapest_sold (defScope s_cheapest_sold) [(0, "sold"), (1, "some")] ["enumerate"] = true := by decide +kernel
/-! step_of -/
abbrev s_step_of : Stmt := top 42
abbrev n_step_of : List Str := ["hall", "rule", "sold", "paid", "fare", "least"]
theorem sc_step_of : FnScope n_step_of ["hall", "rule", "sold", "paid", "fare"] (defScope s_step_of) := ⟨rfl, rfl, rfl, by decide +kernel, rfl, by decide +kernel, by decide +kernel⟩
theorem tb_step_of : tabB n_step_of (defScope s_step_of) [(0, "hall"), (1, "rule"), (2, "sold"), (3, "paid"), (4, "fare"), (5, "least")] ["sum", "lets_of", "with_more", "TAKEN", "cheapest_sold", "OUST", "OUSTED", "REFUSED"] = true := by decide +kernel
/-! seen_with -/
abbrev s_seen_with : Stmt := top 43
abbrev n_seen_with : List Str := ["hall", "seen", "fare", "more"]
theorem sc_seen_with : FnScope n_seen_with ["hall", "seen", "fare"] (defScope s_seen_with) := ⟨rfl, rfl, rfl, by decide +kernel, rfl, by decide +kernel, by decide +kernel⟩
theorem tb_seen_with : tabB n_seen_with (defScope s_seen_with) [(0, "hall"), (1, "seen"), (2, "fare"), (3, "more")] ["with_more", "sum", "cheapest_sold"] = true := by decide +kernel
/-! need_calls -/
abbrev s_need_calls : Stmt := top 44
abbrev n_need_calls : List Str := ["hall", "row", "number", "fare"]
theorem sc_need_calls : FnScope n_need_calls ["hall", "row"] (defScope s_need_calls) := ⟨rfl, rfl, rfl, by decide +kernel, rfl, by decide +kernel, by decide +kernel⟩
theorem tb_need_calls : tabB n_need_calls (defScope s_need_calls) [(0, "hall"), (1, "row"), (2, "number"), (3, "fare")] ["isinstance", "list", "tuple", "len", "MOST_CALLS", "BadCall", "enumerate", "is_whole"] = true := by decide +kernel
/-! seen_of -/
abbrev s_seen_of : Stmt := top 45
abbrev n_seen_of : List Str := ["hall", "row", "seen", "fare"]
theorem sc_seen_of : FnScope n_seen_of ["hall", "row"] (defScope s_seen_of) := ⟨rfl, rfl, rfl, by decide +kernel, rfl, by decide +kernel, by decide +kernel⟩
theorem tb_seen_of : tabB n_seen_of (defScope s_seen_of) [(0, "hall"), (1, "row"), (2, "seen"), (3, "fare")] ["none_of", "seen_with"] = true := by decide +kernel
/-! seen -/
abbrev s_seen : Stmt := top 46
abbrev n_seen : List Str := ["hall", "row"]
theorem sc_seen : FnScope n_seen ["hall", "row"] (defScope s_seen) := ⟨rfl, rfl, rfl, by decide +kernel, rfl, by decide +kernel, by decide +kernel⟩
theorem tb_seen : tabB n_seen (defScope s_seen) [(0, "hall"), (1, "row")] ["need_hall", "seen_of", "need_calls"] = true := by decide +kernel
/-! worth_of -/
abbrev s_worth_of : Stmt := top 47
abbrev n_worth_of : List Str := ["hall", "counts", "fare", "many"]
theorem sc_worth_of : FnScope n_worth_of ["hall", "counts"] (defScope s_worth_of) := ⟨rfl, rfl, rfl, by decide +kernel, rfl, by decide +kernel, by decide +kernel⟩
theorem tb_worth_of : tabB n_worth_of (defScope s_worth_of) [(0, "hall"), (1, "counts")] ["sum", "zip"] = true := by decide +kernel
/-! hindsight -/
abbrev s_hindsight : Stmt := top 48
abbrev n_hindsight : List Str := ["hall", "row"]
theorem sc_hindsight : FnScope n_hindsight ["hall", "row"] (defScope s_hindsight) := ⟨rfl, rfl, rfl, by decide +kernel, rfl, by decide +kernel, by decide +kernel⟩
theorem tb_hindsight : tabB n_hindsight (defScope s_hindsight) [(0, "hall"), (1, "row")] ["worth_of", "seen"] = true := by decide +kernel
/-! under -/
abbrev s_under : Stmt := top 54
abbrev n_under : List Str := ["manager", "deed", "given", "told"]
theorem sc_under : FnScope n_under ["manager", "deed"] (defScope s_under) := ⟨rfl, rfl, rfl, by decide +kernel, rfl, by decide +kernel, by decide +kernel⟩
theorem tb_under : tabB n_under (defScope s_under) [(0, "manager"), (1, "deed"), (2, "given"), (3, "told")] [] = true := by decide +kernel
/-! Trial.__init__ -/
abbrev s_Trial___init : Stmt := inClass (top 55) 0
abbrev n_Trial___init : List Str := ["self", "held_book"]
theorem sc_Trial___init : FnScope n_Trial___init ["self", "held_book"] (defScope s_Trial___init) := ⟨rfl, rfl, rfl, by decide +kernel, rfl, by decide +kernel, by decide +kernel⟩
theorem tb_Trial___init : tabB n_Trial___init (defScope s_Trial___init) [(0, "self"), (1, "held_book")] [] = true := by decide +kernel
/-! Trial.__enter__ -/
abbrev s_Trial___enter : Stmt := inClass (top 55) 1
abbrev n_Trial___enter : List Str := ["self"]
theorem sc_Trial___enter : FnScope n_Trial___enter ["self"] (defScope s_Trial___enter) := ⟨rfl, rfl, rfl, by decide +kernel, rfl, by decide +kernel, by decide +kernel⟩
theorem tb_Trial___enter : tabB n_Trial___enter (defScope s_Trial___enter) [(0, "self")] [] = true := by decide +kernel
/-! Trial.__exit__ -/
abbrev s_Trial___exit : Stmt := inClass (top 55) 2
abbrev n_Trial___exit : List Str := ["self", "kind", "told", "trace"]
theorem sc_Trial___exit : FnScope n_Trial___exit ["self", "kind", "told", "trace"] (defScope s_Trial___exit) := ⟨rfl, rfl, rfl, by decide +kernel, rfl, by decide +kernel, by decide +kernel⟩
theorem tb_Trial___exit : tabB n_Trial___exit (defScope s_Trial___exit) [(0, "self"), (1, "kind"), (2, "told"), (3, "trace")] [] = true := by decide +kernel
/-! Book.__init__ -/
abbrev s_Book___init : Stmt := inClass (top 56) 0
abbrev n_Book___init : List Str := ["self", "hall", "rule"]
theorem sc_Book___init : FnScope n_Book___init ["self", "hall", "rule"] (defScope s_Book___init) := ⟨rfl, rfl, rfl, by decide +kernel, rfl, by decide +kernel, by decide +kernel⟩
theorem tb_Book___init : tabB n_Book___init (defScope s_Book___init) [(0, "self"), (1, "hall"), (2, "rule")] ["need_rule", "none_of"] = true := by decide +kernel
/-! Book.hall -/
abbrev s_Book_hall : Stmt := inClass (top 56) 1
abbrev n_Book_hall : List Str := ["self"]
theorem sc_Book_hall : FnScope n_Book_hall ["self"] (defScope s_Book_hall) := ⟨rfl, rfl, rfl, by decide +kernel, rfl, by decide +kernel, by decide +kernel⟩
theorem tb_Book_hall : tabB n_Book_hall (defScope s_Book_hall) [(0, "self")] [] = true := by decide +kernel
/-! Book.rule -/
abbrev s_Book_rule : Stmt := inClass (top 56) 2
abbrev n_Book_rule : List Str := ["self"]
theorem sc_Book_rule : FnScope n_Book_rule ["self"] (defScope s_Book_rule) := ⟨rfl, rfl, rfl, by decide +kernel, rfl, by decide +kernel, by decide +kernel⟩
theorem tb_Book_rule : tabB n_Book_rule (defScope s_Book_rule) [(0, "self")] [] = true := by decide +kernel
/-! Book.sold -/
abbrev s_Book_sold : Stmt := inClass (top 56) 3
abbrev n_Book_sold : List Str := ["self"]
theorem sc_Book_sold : FnScope n_Book_sold ["self"] (defScope s_Book_sold) := ⟨rfl, rfl, rfl, by decide +kernel, rfl, by decide +kernel, by decide +kernel⟩
theorem tb_Book_sold : tabB n_Book_sold (defScope s_Book_sold) [(0, "self")] [] = true := by decide +kernel
/-! Book.paid -/
abbrev s_Book_paid : Stmt := inClass (top 56) 4
abbrev n_Book_paid : List Str := ["self"]
theorem sc_Book_paid : FnScope n_Book_paid ["self"] (defScope s_Book_paid) := ⟨rfl, rfl, rfl, by decide +kernel, rfl, by decide +kernel, by decide +kernel⟩
theorem tb_Book_paid : tabB n_Book_paid (defScope s_Book_paid) [(0, "self")] [] = true := by decide +kernel
/-! Book.__len__ -/
abbrev s_Book___len : Stmt := inClass (top 56) 5
abbrev n_Book___len : List Str := ["self"]
theorem sc_Book___len : FnScope n_Book___len ["self"] (defScope s_Book___len) := ⟨rfl, rfl, rfl, by decide +kernel, rfl, by decide +kernel, by decide +kernel⟩
theorem tb_Book___len : tabB n_Book___len (defScope s_Book___len) [(0, "self")] ["len"] = true := by decide +kernel
/-! Book.calls -/
abbrev s_Book_calls : Stmt := inClass (top 56) 6
abbrev n_Book_calls : List Str := ["self", "deed", "rule", "sold", "paid"]
theorem sc_Book_calls : FnScope n_Book_calls ["self"] (defScope s_Book_calls) := ⟨rfl, rfl, rfl, by decide +kernel, rfl, by decide +kernel, by decide +kernel⟩
theorem tb_Book_calls : tabB n_Book_calls (defScope s_Book_calls) [(0, "self")] ["tuple"] = true := by decide +kernel
/-! Book.got -/
abbrev s_Book_got : Stmt := inClass (top 56) 7
abbrev n_Book_got : List Str := ["self"]
theorem sc_Book_got : FnScope n_Book_got ["self"] (defScope s_Book_got) := ⟨rfl, rfl, rfl, by decide +kernel, rfl, by decide +kernel, by decide +kernel⟩
theorem tb_Book_got : tabB n_Book_got (defScope s_Book_got) [(0, "self")] ["worth_of"] = true := by decide +kernel
/-! Book.regret -/
abbrev s_Book_regret : Stmt := inClass (top 56) 8
abbrev n_Book_regret : List Str := ["self"]
theorem sc_Book_regret : FnScope n_Book_regret ["self"] (defScope s_Book_regret) := ⟨rfl, rfl, rfl, by decide +kernel, rfl, by decide +kernel, by decide +kernel⟩
theorem tb_Book_regret : tabB n_Book_regret (defScope s_Book_regret) [(0, "self")] ["hindsight"] = true := by decide +kernel
/-! Book.need_room -/
abbrev s_Book_need_room : Stmt := inClass (top 56) 9
abbrev n_Book_need_room : List Str := ["self"]
theorem sc_Book_need_room : FnScope n_Book_need_room ["self"] (defScope s_Book_need_room) := ⟨rfl, rfl, rfl, by decide +kernel, rfl, by decide +kernel, by decide +kernel⟩
theorem tb_Book_need_room : tabB n_Book_need_room (defScope s_Book_need_room) [(0, "self")] ["len", "MOST_DEEDS", "TooGreat"] = true := by decide +kernel
/-! Book.need_fare -/
abbrev s_Book_need_fare : Stmt := inClass (top 56) 10
abbrev n_Book_need_fare : List Str := ["self", "fare"]
theorem sc_Book_need_fare : FnScope n_Book_need_fare ["self", "fare"] (defScope s_Book_need_fare) := ⟨rfl, rfl, rfl, by decide +kernel, rfl, by decide +kernel, by decide +kernel⟩
theorem tb_Book_need_fare : tabB n_Book_need_fare (defScope s_Book_need_fare) [(0, "self"), (1, "fare")] ["is_whole", "len", "BadCall"] = true := by decide +kernel
/-! Book.keep -/
abbrev s_Book_keep : Stmt := inClass (top 56) 11
abbrev n_Book_keep : List Str := ["self", "one"]
theorem sc_Book_keep : FnScope n_Book_keep ["self", "one"] (defScope s_Book_keep) := ⟨rfl, rfl, rfl, by decide +kernel, rfl, by decide +kernel, by decide +kernel⟩
theorem tb_Book_keep : tabB n_Book_keep (defScope s_Book_keep) [(0, "self"), (1, "one")] [] = true := by decide +kernel
/-! Book.call -/
abbrev s_Book_call : Stmt := inClass (top 56) 12
abbrev n_Book_call : List Str := ["self", "fare", "sold", "paid", "deed"]
theorem sc_Book_call : FnScope n_Book_call ["self", "fare"] (defScope s_Book_call) := ⟨rfl, rfl, rfl, by decide +kernel, rfl, by decide +kernel, by decide +kernel⟩
theorem tb_Book_call : tabB n_Book_call (defScope s_Book_call) [(0, "self"), (1, "fare"), (2, "sold"), (3, "paid"), (4, "deed")] ["step_of", "CALL"] = true := by decide +kernel
/-! Book.give -/
abbrev s_Book_give : Stmt := inClass (top 56) 13
abbrev n_Book_give : List Str := ["self", "fare"]
theorem sc_Book_give : FnScope n_Book_give ["self", "fare"] (defScope s_Book_give) := ⟨rfl, rfl, rfl, by decide +kernel, rfl, by decide +kernel, by decide +kernel⟩
theorem tb_Book_give : tabB n_Book_give (defScope s_Book_give) [(0, "self"), (1, "fare")] ["BadCall", "GIVE", "with_more"] = true := by decide +kernel
/-! Book.change -/
abbrev s_Book_change : Stmt := inClass (top 56) 14
abbrev n_Book_change : List Str := ["self", "rule"]
theorem sc_Book_change : FnScope n_Book_change ["self", "rule"] (defScope s_Book_change) := ⟨rfl, rfl, rfl, by decide +kernel, rfl, by decide +kernel, by decide +kernel⟩
theorem tb_Book_change : tabB n_Book_change (defScope s_Book_change) [(0, "self"), (1, "rule")] ["need_rule", "CHANGE"] = true := by decide +kernel
/-! Book.undo -/
abbrev s_Book_undo : Stmt := inClass (top 56) 15
abbrev n_Book_undo : List Str := ["self"]
theorem sc_Book_undo : FnScope n_Book_undo ["self"] (defScope s_Book_undo) := ⟨rfl, rfl, rfl, by decide +kernel, rfl, by decide +kernel, by decide +kernel⟩
theorem tb_Book_undo : tabB n_Book_undo (defScope s_Book_undo) [(0, "self")] ["len"] = true := by decide +kernel
/-! Book.redo -/
abbrev s_Book_redo : Stmt := inClass (top 56) 16
abbrev n_Book_redo : List Str := ["self"]
theorem sc_Book_redo : FnScope n_Book_redo ["self"] (defScope s_Book_redo) := ⟨rfl, rfl, rfl, by decide +kernel, rfl, by decide +kernel, by decide +kernel⟩
theorem tb_Book_redo : tabB n_Book_redo (defScope s_Book_redo) [(0, "self")] [] = true := by decide +kernel
/-! Book.copy -/
abbrev s_Book_copy : Stmt := inClass (top 56) 17
abbrev n_Book_copy : List Str := ["self", "found"]
theorem sc_Book_copy : FnScope n_Book_copy ["self"] (defScope s_Book_copy) := ⟨rfl, rfl, rfl, by decide +kernel, rfl, by decide +kernel, by decide +kernel⟩
theorem tb_Book_copy : tabB n_Book_copy (defScope s_Book_copy) [(0, "self"), (1, "found")] ["Book"] = true := by decide +kernel
/-! Book.trial -/
abbrev s_Book_trial : Stmt := inClass (top 56) 18
abbrev n_Book_trial : List Str := ["self"]
theorem sc_Book_trial : FnScope n_Book_trial ["self"] (defScope s_Book_trial) := ⟨rfl, rfl, rfl, by decide +kernel, rfl, by decide +kernel, by decide +kernel⟩
theorem tb_Book_trial : tabB n_Book_trial (defScope s_Book_trial) [(0, "self")] ["Trial"] = true := by decide +kernel
/-! Book.__eq__ -/
abbrev s_Book___eq : Stmt := inClass (top 56) 19
abbrev n_Book___eq : List Str := ["self", "other", "one"]
theorem sc_Book___eq : FnScope n_Book___eq ["self", "other"] (defScope s_Book___eq) := ⟨rfl, rfl, rfl, by decide +kernel, rfl, by decide +kernel, by decide +kernel⟩
theorem tb_Book___eq : tabB n_Book___eq (defScope s_Book___eq) [(0, "self"), (1, "other")] ["isinstance", "Book"] = true := by decide +kernel
/-! _law_mixed -/
abbrev s_l_mixed : Stmt := top 58
abbrev n_l_mixed : List Str := ["_law_cell", "_law_n", "_law_blend"]
theorem sc_l_mixed : FnScope n_l_mixed ["_law_cell", "_law_n"] (defScope s_l_mixed) := ⟨rfl, rfl, rfl, by decide +kernel, rfl, by decide +kernel, by decide +kernel⟩
theorem tb_l_mixed : tabB n_l_mixed (defScope s_l_mixed) [(0, "_law_cell"), (1, "_law_n"), (2, "_law_blend")] ["int"] = true := by decide +kernel
/-! _law_folded -/
abbrev s_l_folded : Stmt := top 59
abbrev n_l_folded : List Str := ["_law_script", "_law_found", "_law_n", "_law_cell"]
theorem sc_l_folded : FnScope n_l_folded ["_law_script"] (defScope s_l_folded) := ⟨rfl, rfl, rfl, by decide +kernel, rfl, by decide +kernel, by decide +kernel⟩
theorem tb_l_folded : tabB n_l_folded (defScope s_l_folded) [(0, "_law_script"), (1, "_law_found"), (2, "_law_n"), (3, "_law_cell")] ["range", "enumerate", "int"] = true := by decide +kernel
/-! _law_draw -/
abbrev s_l_draw : Stmt := top 60
abbrev n_l_draw : List Str := ["_law_m", "_law_limit", "_law_n", "_law_lot", "_law_here", "_law_cell"]
theorem sc_l_draw : FnScope n_l_draw ["_law_m", "_law_limit"] (defScope s_l_draw) := ⟨rfl, rfl, rfl, by decide +kernel, rfl, by decide +kernel, by decide +kernel⟩
theorem tb_l_draw : tabB n_l_draw (defScope s_l_draw) [(0, "_law_m"), (1, "_law_limit"), (2, "_law_n"), (3, "_law_lot"), (4, "_law_here"), (5, "_law_cell")] ["int", "len", "_law_mixed"] = true := by decide +kernel
/-! _law_begun -/
abbrev s_l_begun : Stmt := top 61
abbrev n_l_begun : List Str := ["_law_script", "_law_m", "_law_cell"]
theorem sc_l_begun : FnScope n_l_begun ["_law_script"] (defScope s_l_begun) := ⟨rfl, rfl, rfl, by decide +kernel, rfl, by decide +kernel, by decide +kernel⟩
theorem tb_l_begun : tabB n_l_begun (defScope s_l_begun) [(0, "_law_script"), (1, "_law_m")] ["_law_folded"] = true := by decide +kernel
/-! _law_like -/
abbrev s_l_like : Stmt := top 62
abbrev n_l_like : List Str := ["_law_answer", "_law_due"]
theorem sc_l_like : FnScope n_l_like ["_law_answer", "_law_due"] (defScope s_l_like) := ⟨rfl, rfl, rfl, by decide +kernel, rfl, by decide +kernel, by decide +kernel⟩
theorem tb_l_like : tabB n_l_like (defScope s_l_like) [(0, "_law_answer"), (1, "_law_due")] ["repr"] = true := by decide +kernel
/-! _law_of -/
abbrev s_l_of : Stmt := top 63
abbrev n_l_of : List Str := ["_law_m", "_law_some"]
theorem sc_l_of : FnScope n_l_of ["_law_m", "_law_some"] (defScope s_l_of) := ⟨rfl, rfl, rfl, by decide +kernel, rfl, by decide +kernel, by decide +kernel⟩
theorem tb_l_of : tabB n_l_of (defScope s_l_of) [(0, "_law_m"), (1, "_law_some")] ["_law_draw", "len"] = true := by decide +kernel
/-! _law_fares -/
abbrev s_l_fares : Stmt := top 64
abbrev n_l_fares : List Str := ["_law_m", "_law_most", "_law_found", "_law_last", "_law_k"]
theorem sc_l_fares : FnScope n_l_fares ["_law_m", "_law_most"] (defScope s_l_fares) := ⟨rfl, rfl, rfl, by decide +kernel, rfl, by decide +kernel, by decide +kernel⟩
theorem tb_l_fares : tabB n_l_fares (defScope s_l_fares) [(0, "_law_m"), (1, "_law_most"), (2, "_law_found"), (3, "_law_last"), (4, "_law_k")] ["range", "_law_draw"] = true := by decide +kernel
/-! _law_hall -/
abbrev s_l_hall : Stmt := top 65
abbrev n_l_hall : List Str := ["_law_m", "_law_seats", "_law_fares_here"]
theorem sc_l_hall : FnScope n_l_hall ["_law_m", "_law_seats", "_law_fares_here"] (defScope s_l_hall) := ⟨rfl, rfl, rfl, by decide +kernel, rfl, by decide +kernel, by decide +kernel⟩
theorem tb_l_hall : tabB n_l_hall (defScope s_l_hall) [(0, "_law_m"), (1, "_law_seats"), (2, "_law_fares_here")] ["_law_draw", "_law_fares"] = true := by decide +kernel
/-! _law_plain -/
abbrev s_l_plain : Stmt := top 66
abbrev n_l_plain : List Str := ["_law_m", "_law_hall_so", "_law_word", "_law_limits", "_law_k"]
theorem sc_l_plain : FnScope n_l_plain ["_law_m", "_law_hall_so"] (defScope s_l_plain) := ⟨rfl, rfl, rfl, by decide +kernel, rfl, by decide +kernel, by decide +kernel⟩
theorem tb_l_plain : tabB n_l_plain (defScope s_l_plain) [(0, "_law_m"), (1, "_law_hall_so"), (2, "_law_word"), (3, "_law_limits")] ["_law_of", "tuple", "sorted"] = true := by decide +kernel
/-! _law_rule -/
abbrev s_l_rule : Stmt := top 67
abbrev n_l_rule : List Str := ["_law_m", "_law_hall_so", "_law_some", "_law_k", "_law_other"]
theorem sc_l_rule : FnScope n_l_rule ["_law_m", "_law_hall_so"] (defScope s_l_rule) := ⟨rfl, rfl, rfl, by decide +kernel, rfl, by decide +kernel, by decide +kernel⟩
theorem tb_l_rule : tabB n_l_rule (defScope s_l_rule) [(0, "_law_m"), (1, "_law_hall_so"), (2, "_law_some"), (3, "_law_k"), (4, "_law_other")] ["_law_plain", "range", "_law_draw", "_law_of"] = true := by decide +kernel
/-! _law_lets -/
abbrev s_l_lets : Stmt := top 68
abbrev n_l_lets : List Str := ["_law_seats_so", "_law_some", "_law_sold_so", "_law_k", "_law_j"]
theorem sc_l_lets : FnScope n_l_lets ["_law_seats_so", "_law_some", "_law_sold_so", "_law_k"] (defScope s_l_lets) := ⟨rfl, rfl, rfl, by decide +kernel, rfl, by decide +kernel, by decide +kernel⟩
theorem tb_l_lets : tabB n_l_lets (defScope s_l_lets) [(0, "_law_seats_so"), (1, "_law_some"), (2, "_law_sold_so"), (3, "_law_k"), (4, "_law_j")] ["_law_lets", "sum", "range", "len"] = true := by decide +kernel
/-! _law_more -/
abbrev s_l_more : Stmt := top 69
abbrev n_l_more : List Str := ["_law_counts", "_law_k", "_law_more_here"]
theorem sc_l_more : FnScope n_l_more ["_law_counts", "_law_k", "_law_more_here"] (defScope s_l_more) := ⟨rfl, rfl, rfl, by decide +kernel, rfl, by decide +kernel, by decide +kernel⟩
theorem tb_l_more : tabB n_l_more (defScope s_l_more) [(0, "_law_counts"), (1, "_law_k"), (2, "_law_more_here")] [] = true := by decide +kernel
/-! _law_deal -/
abbrev s_l_deal : Stmt := top 70
abbrev n_l_deal : List Str := ["_law_hall_so", "_law_some", "_law_sold_so", "_law_paid_so", "_law_k", "_law_cheap", "_law_j"]
theorem sc_l_deal : FnScope n_l_deal ["_law_hall_so", "_law_some", "_law_sold_so", "_law_paid_so", "_law_k"] (defScope s_l_deal) := ⟨rfl, rfl, rfl, by decide +kernel, rfl, by decide +kernel, by decide +kernel⟩
theorem tb_l_deal : tabB n_l_deal (defScope s_l_deal) [(0, "_law_hall_so"), (1, "_law_some"), (2, "_law_sold_so"), (3, "_law_paid_so"), (4, "_law_k"), (5, "_law_cheap")] ["sum", "_law_lets", "_law_more", "range"] = true := by decide +kernel
/-! _law_worth -/
abbrev s_l_worth : Stmt := top 71
abbrev n_l_worth : List Str := ["_law_hall_so", "_law_counts", "_law_k"]
theorem sc_l_worth : FnScope n_l_worth ["_law_hall_so", "_law_counts"] (defScope s_l_worth) := ⟨rfl, rfl, rfl, by decide +kernel, rfl, by decide +kernel, by decide +kernel⟩
theorem tb_l_worth : tabB n_l_worth (defScope s_l_worth) [(0, "_law_hall_so"), (1, "_law_counts")] ["sum", "range", "len"] = true := by decide +kernel
/-! _law_best -/
abbrev s_l_best : Stmt := top 72
abbrev n_l_best : List Str := ["_law_hall_so", "_law_calls_so", "_law_k"]
theorem sc_l_best : FnScope n_l_best ["_law_hall_so", "_law_calls_so"] (defScope s_l_best) := ⟨rfl, rfl, rfl, by decide +kernel, rfl, by decide +kernel, by decide +kernel⟩
theorem tb_l_best : tabB n_l_best (defScope s_l_best) [(0, "_law_hall_so"), (1, "_law_calls_so")] ["sum", "sorted"] = true := by decide +kernel
/-! _law_said -/
abbrev s_l_said : Stmt := top 73
abbrev n_l_said : List Str := ["_law_call", "_law_told_so", "e"]
theorem sc_l_said : FnScope n_l_said ["_law_call"] (defScope s_l_said) := ⟨rfl, rfl, rfl, by decide +kernel, rfl, by decide +kernel, by decide +kernel⟩
theorem tb_l_said : tabB n_l_said (defScope s_l_said) [(0, "_law_call"), (1, "_law_told_so"), (2, "e")] ["BadHall", "BadRule", "BadCall", "BadNumber", "BadPlan", "BadShare", "BadLog", "BadPaper", "BadText", "TooGreat"] = true := by decide +kernel
/-! _law_begin_book -/
abbrev s_l_begin_book : Stmt := top 74
abbrev n_l_begin_book : List Str := ["_law_hall_so", "_law_some", "_law_none"]
theorem sc_l_begin_book : FnScope n_l_begin_book ["_law_hall_so", "_law_some"] (defScope s_l_begin_book) := ⟨rfl, rfl, rfl, by decide +kernel, rfl, by decide +kernel, by decide +kernel⟩
theorem tb_l_begin_book : tabB n_l_begin_book (defScope s_l_begin_book) [(0, "_law_hall_so"), (1, "_law_some"), (2, "_law_none")] ["len"] = true := by decide +kernel
/-! _law_calls_in -/
abbrev s_l_calls_in : Stmt := top 75
abbrev n_l_calls_in : List Str := ["_law_own", "_law_word", "_law_k", "_law_some", "_law_sold_so", "_law_paid_so"]
theorem sc_l_calls_in : FnScope n_l_calls_in ["_law_own"] (defScope s_l_calls_in) := ⟨rfl, rfl, rfl, by decide +kernel, rfl, by decide +kernel, by decide +kernel⟩
theorem tb_l_calls_in : tabB n_l_calls_in (defScope s_l_calls_in) [(0, "_law_own")] ["tuple"] = true := by decide +kernel
/-! _law_stands -/
abbrev s_l_stands : Stmt := top 76
abbrev n_l_stands : List Str := ["_law_book", "_law_hall_so", "_law_own", "_law_deed", "_law_some", "_law_sold_so", "_law_paid_so", "_law_row_so", "_law_net", "_law_due", "_law_told_so"]
theorem sc_l_stands : FnScope n_l_stands ["_law_book", "_law_hall_so", "_law_own"] (defScope s_l_stands) := ⟨rfl, rfl, rfl, by decide +kernel, rfl, by decide +kernel, by decide +kernel⟩
theorem tb_l_stands : tabB n_l_stands (defScope s_l_stands) [(0, "_law_book"), (1, "_law_hall_so"), (2, "_law_own"), (3, "_law_deed"), (4, "_law_some"), (5, "_law_sold_so"), (6, "_law_paid_so"), (7, "_law_row_so"), (8, "_law_net"), (9, "_law_due"), (10, "_law_told_so")] ["_law_calls_in", "_law_worth", "len", "_law_best", "_law_like"] = true := by decide +kernel
/-! _law_keep -/
abbrev s_l_keep : Stmt := top 77
abbrev n_l_keep : List Str := ["_law_own", "_law_deed", "_law_some", "_law_sold_so", "_law_paid_so"]
theorem sc_l_keep : FnScope n_l_keep ["_law_own", "_law_deed", "_law_some", "_law_sold_so", "_law_paid_so"] (defScope s_l_keep) := ⟨rfl, rfl, rfl, by decide +kernel, rfl, by decide +kernel, by decide +kernel⟩
theorem tb_l_keep : tabB n_l_keep (defScope s_l_keep) [(0, "_law_own"), (1, "_law_deed"), (2, "_law_some"), (3, "_law_sold_so"), (4, "_law_paid_so")] [] = true := by decide +kernel
/-! _law_turn -/
abbrev s_l_turn : Stmt := top 78
abbrev n_l_turn : List Str := ["_law_m", "_law_book", "_law_hall_so", "_law_own", "_law_pick", "_law_k", "_law_deed", "_law_some", "_law_sold_so", "_law_paid_so", "_law_fresh", "_law_cost", "_law_word", "_law_other", "_law_is_so"]
theorem sc_l_turn : FnScope n_l_turn ["_law_m", "_law_book", "_law_hall_so", "_law_own"] (defScope s_l_turn) := ⟨rfl, rfl, rfl, by decide +kernel, rfl, by decide +kernel, by decide +kernel⟩
theorem tb_l_turn : tabB n_l_turn (defScope s_l_turn) [(0, "_law_m"), (1, "_law_book"), (2, "_law_hall_so"), (3, "_law_own"), (4, "_law_pick"), (5, "_law_k"), (6, "_law_deed"), (7, "_law_some"), (8, "_law_sold_so"), (9, "_law_paid_so"), (10, "_law_fresh"), (11, "_law_cost"), (12, "_law_word"), (13, "_law_other"), (14, "_law_is_so")] ["_law_draw", "len", "_law_deal", "_law_keep", "_law_like", "_law_said", "_law_more", "_law_rule"] = true := by decide +kernel
/-! _law_led -/
abbrev s_l_led : Stmt := top 79
abbrev n_l_led : List Str := ["_law_m", "_law_book", "_law_hall_so", "_law_own", "_law_many", "_law_again"]
theorem sc_l_led : FnScope n_l_led ["_law_m", "_law_book", "_law_hall_so", "_law_own", "_law_many"] (defScope s_l_led) := ⟨rfl, rfl, rfl, by decide +kernel, rfl, by decide +kernel, by decide +kernel⟩
theorem tb_l_led : tabB n_l_led (defScope s_l_led) [(0, "_law_m"), (1, "_law_book"), (2, "_law_hall_so"), (3, "_law_own"), (4, "_law_many"), (5, "_law_again")] ["range", "_law_turn", "_law_stands"] = true := by decide +kernel
/-! _law_twin_of -/
abbrev s_l_twin_of : Stmt := top 80
abbrev n_l_twin_of : List Str := ["_law_own"]
theorem sc_l_twin_of : FnScope n_l_twin_of ["_law_own"] (defScope s_l_twin_of) := ⟨rfl, rfl, rfl, by decide +kernel, rfl, by decide +kernel, by decide +kernel⟩
theorem tb_l_twin_of : tabB n_l_twin_of (defScope s_l_twin_of) [(0, "_law_own")] ["list"] = true := by decide +kernel
/-! _law_inner -/
abbrev s_l_inner : Stmt := top 81
abbrev n_l_inner : List Str := ["_law_m", "_law_led_so", "_law_held", "_law_hall_so", "_law_way", "_law_own", "_law_fresh", "_law_told_so"]
theorem sc_l_inner : FnScope n_l_inner ["_law_m", "_law_led_so", "_law_held", "_law_hall_so", "_law_way"] (defScope s_l_inner) := ⟨rfl, rfl, rfl, by decide +kernel, rfl, by decide +kernel, by decide +kernel⟩
theorem tb_l_inner : tabB n_l_inner (defScope s_l_inner) [(0, "_law_m"), (1, "_law_led_so"), (2, "_law_held"), (3, "_law_hall_so"), (4, "_law_way"), (5, "_law_own"), (6, "_law_fresh"), (7, "_law_told_so")] ["_law_led", "_law_stands", "_law_twin_of", "under"] = true := by decide +kernel
/-! _law_tried -/
abbrev s_l_tried : Stmt := top 82
abbrev n_l_tried : List Str := ["_law_m", "_law_book", "_law_hall_so", "_law_own", "_law_way", "_law_led_so", "_law_told_so"]
theorem sc_l_tried : FnScope n_l_tried ["_law_m", "_law_book", "_law_hall_so", "_law_own", "_law_way"] (defScope s_l_tried) := ⟨rfl, rfl, rfl, by decide +kernel, rfl, by decide +kernel, by decide +kernel⟩
theorem tb_l_tried : tabB n_l_tried (defScope s_l_tried) [(0, "_law_m"), (1, "_law_book"), (2, "_law_hall_so"), (3, "_law_own"), (4, "_law_way"), (5, "_law_led_so"), (6, "_law_told_so")] ["_law_twin_of", "under", "BadCall", "_law_stands"] = true := by decide +kernel
/-! _law_back_right -/
abbrev s_l_back_right : Stmt := top 83
abbrev n_l_back_right : List Str := ["_law_book", "_law_hall_so", "_law_own", "_law_again"]
theorem sc_l_back_right : FnScope n_l_back_right ["_law_book", "_law_hall_so", "_law_own"] (defScope s_l_back_right) := ⟨rfl, rfl, rfl, by decide +kernel, rfl, by decide +kernel, by decide +kernel⟩
theorem tb_l_back_right : tabB n_l_back_right (defScope s_l_back_right) [(0, "_law_book"), (1, "_law_hall_so"), (2, "_law_own"), (3, "_law_again")] ["range", "len", "_law_stands"] = true := by decide +kernel
/-! law -/
abbrev s_law : Stmt := top 84
abbrev n_law : List Str := ["_law_script", "_law_m", "_law_turn_here", "_law_hall_so", "_law_some", "_law_book", "_law_own", "_law_early", "_law_way", "_law_fresh", "_law_twin", "_law_other", "_law_deeds", "_law_far", "_law_one", "_law_two", "_law_near", "_law_told_so"]
theorem sc_law : FnScope n_law ["_law_script"] (defScope s_law) := ⟨rfl, rfl, rfl, by decide +kernel, rfl, by decide +kernel, by decide +kernel⟩
theorem tb_law : tabB n_law (defScope s_law) [(0, "_law_script"), (1, "_law_m"), (2, "_law_turn_here"), (3, "_law_hall_so"), (4, "_law_some"), (5, "_law_book"), (6, "_law_own"), (7, "_law_early"), (8, "_law_way"), (9, "_law_fresh"), (10, "_law_twin"), (11, "_law_other"), (12, "_law_deeds"), (13, "_law_far"), (14, "_law_one"), (15, "_law_two"), (16, "_law_near"), (17, "_law_told_so")] ["_law_begun", "range", "min", "len", "_law_hall", "_law_rule", "Book", "_law_begin_book", "_law_led", "_law_draw", "_law_tried", "_law_twin_of", "under", "_law_stands", "_law_back_right", "_law_like"] = true := by decide +kernel
end BL
end

section
set_option Elab.async false
set_option linter.all false
set_option maxRecDepth 100000
set_option maxHeartbeats 4000000
/-! BLm: halls, rules, what is sold, as plain data; what the defs compute. -/
namespace BL
open PySem PySem.Spec PyProof.Rows L2
/-! ### halls and rules -/
structure Hl where
  s : Int
  fs : List Int
abbrev iT (l : List Int) : PyData := .tuple (l.map PyData.int)
def Hl.d (h : Hl) : PyData := .tuple [.int h.s, iT h.fs]
def asc : List Int → Bool
  | a :: b :: r => decide (a < b) && asc (b :: r)
  | _ => true
def ascL : List Int → Bool
  | a :: b :: r => decide (a ≤ b) && ascL (b :: r)
  | _ => true
structure Hl.Ok (h : Hl) : Prop where
  s1 : 1 ≤ h.s
  s6 : h.s ≤ 6
  n1 : 1 ≤ h.fs.length
  n4 : h.fs.length ≤ 4
  f : ∀ x ∈ h.fs, 1 ≤ x ∧ x ≤ 99
  up : asc h.fs = true
inductive Wd where
  | apart | nested | kept
  deriving DecidableEq
def Wd.nm : Wd → Str
  | .apart => "apart"
  | .nested => "nested"
  | .kept => "kept"
inductive Rl where
  | plain (w : Wd) (l : List Int)
  | all (a b : Rl)
  | any (a b : Rl)
  | oust (a : Rl) (fee : Int)
def Rl.d : Rl → PyData
  | .plain w l => .tuple [.str w.nm, iT l]
  | .all a b => .tuple [.str "all", a.d, b.d]
  | .any a b => .tuple [.str "any", a.d, b.d]
  | .oust a fee => .tuple [.str "oust", a.d, .int fee]
def Rl.isO : Rl → Bool
  | .oust _ _ => true
  | _ => false
/-- limits: as many as fares, from 0 to the seats -/
structure LimOk (h : Hl) (l : List Int) : Prop where
  n : l.length = h.fs.length
  b : ∀ x ∈ l, 0 ≤ x ∧ x ≤ h.s
/-- a rule that has no ousting word -/
def Rl.In (h : Hl) : Rl → Prop
  | .plain w l => LimOk h l ∧ (w = .nested → ascL l = true)
  | .all a b => a.In h ∧ b.In h
  | .any a b => a.In h ∧ b.In h
  | .oust _ _ => False
def Rl.OkR (h : Hl) : Rl → Prop
  | .oust a fee => a.In h ∧ 0 ≤ fee ∧ fee ≤ 99
  | r => r.In h
def Rl.words : Rl → Nat
  | .plain _ _ => 1
  | .all a b => 1 + a.words + b.words
  | .any a b => 1 + a.words + b.words
  | .oust a _ => 1 + a.words
def Rl.deep : Rl → Nat
  | .plain _ _ => 0
  | .all a b => 1 + max a.deep b.deep
  | .any a b => 1 + max a.deep b.deep
  | .oust a _ => 1 + a.deep
structure Rl.Ok (h : Hl) (r : Rl) : Prop where
  ok : r.OkR h
  w : r.words ≤ 7
  d : r.deep ≤ 3
theorem Rl.In.okR {h : Hl} {r : Rl} (q : r.In h) : r.OkR h := by
  cases r with
  | oust a f => exact q.elim
  | _ => exact q
theorem Rl.words_pos : ∀ r : Rl, 1 ≤ r.words
  | .plain _ _ => Nat.le_refl _
  | .all _ _ => by unfold Rl.words; omega
  | .any _ _ => by unfold Rl.words; omega
  | .oust _ _ => by unfold Rl.words; omega
/-! ### letting -/
def letsP (h : Hl) (w : Wd) (l sold : List Int) (k : Nat) : Bool := match w with
  | .apart => decide (sold.getD k 0 < l.getD k 0)
  | .kept => decide (l.getD k 0 < h.s - sold.sum)
  | .nested => (List.range (sold.length - k)).all fun i => decide ((sold.take (k + i + 1)).sum < l.getD (k + i) 0)
def lets (h : Hl) : Rl → List Int → Nat → Bool
  | .plain w l, sold, k => letsP h w l sold k
  | .all a b, sold, k => lets h a sold k && lets h b sold k
  | .any a b, sold, k => lets h a sold k || lets h b sold k
  | .oust a _, sold, k => lets h a sold k
def more (c : List Int) (k : Nat) (m : Int) : List Int := c.take k ++ [c.getD k 0 + m] ++ c.drop (k + 1)
theorem more_len {c : List Int} {k : Nat} {m : Int} (h : k < c.length) : (more c k m).length = c.length := by
  unfold more; simp; omega
/-- the first place that is above 0, from i on -/
def cheapF : Nat → List Int → Option Nat
  | _, [] => none
  | i, x :: r => if 0 < x then some i else cheapF (i + 1) r
def cheap (c : List Int) : Option Nat := cheapF 0 c
inductive Wx where
  | taken | ousted | refused
  deriving DecidableEq
def Wx.nm : Wx → Str
  | .taken => "taken"
  | .ousted => "ousted"
  | .refused => "refused"
def stepO (h : Hl) (fee : Int) (sold : List Int) (paid : Int) (k : Nat) : List Int × Int × Wx := match cheap sold with
  | none => (sold, paid, .refused)
  | some j => if j < k ∧ fee < h.fs.getD k 0 - h.fs.getD j 0 then (more (more sold j (-1)) k 1, paid + fee, .ousted) else (sold, paid, .refused)
def step (h : Hl) (r : Rl) (sold : List Int) (paid : Int) (k : Nat) : List Int × Int × Wx :=
  if sold.sum < h.s ∧ lets h r sold k = true then (more sold k 1, paid, .taken)
  else match r with
    | .oust _ fee => stepO h fee sold paid k
    | _ => (sold, paid, .refused)
/-- what is sold: as many counts as fares, none below 0, together no more than the seats -/
structure Sold (h : Hl) (c : List Int) : Prop where
  n : c.length = h.fs.length
  p : ∀ x ∈ c, 0 ≤ x
  m : c.sum ≤ h.s
def worth (h : Hl) (c : List Int) : Int := (List.zipWith (fun a b => a * b) h.fs c).sum
def seenW (h : Hl) (c : List Int) (k : Nat) : List Int := if (more c k 1).sum ≤ h.s then more c k 1 else match cheap (more c k 1) with
  | some j => more (more c k 1) j (-1)
  | none => more c k 1
def seenF (h : Hl) (c : List Int) (row : List Nat) : List Int := row.foldl (seenW h) c
def none0 (h : Hl) : List Int := List.replicate h.fs.length 0
/-! ### sums, places -/
theorem sum_app (a b : List Int) : (a ++ b).sum = a.sum + b.sum := by
  induction a with
  | nil => simp
  | cons x r ih => rw [List.cons_append, List.sum_cons, List.sum_cons, ih]; omega
theorem sum_split (c : List Int) (k : Nat) (h : k < c.length) : c.sum = (c.take k).sum + c.getD k 0 + (c.drop (k + 1)).sum := by
  induction c generalizing k with
  | nil => simp at h
  | cons x r ih =>
    cases k with
    | zero => simp
    | succ k =>
      have q := ih k (by simpa using h)
      simp only [List.sum_cons, List.take_succ_cons, List.drop_succ_cons]
      rw [q]
      simp only [List.getD_cons_succ]
      omega
theorem more_sum {c : List Int} {k : Nat} {m : Int} (h : k < c.length) : (more c k m).sum = c.sum + m := by
  unfold more
  rw [sum_app, sum_app, sum_split c k h]
  simp only [List.sum_cons, List.sum_nil]
  omega
theorem sum_nonneg : ∀ {c : List Int}, (∀ x ∈ c, 0 ≤ x) → 0 ≤ c.sum
  | [], _ => by simp
  | x :: r, h => by
    rw [List.sum_cons]
    have h1 := h x List.mem_cons_self
    have h2 := sum_nonneg (c := r) fun y hy => h y (List.mem_cons_of_mem _ hy)
    omega
theorem cheapF_some : ∀ {c : List Int} {i j : Nat}, cheapF i c = some j → i ≤ j ∧ j < i + c.length ∧ 0 < c.getD (j - i) 0 ∧ ∀ m, i ≤ m → m < j → c.getD (m - i) 0 ≤ 0
  | [], i, j, h => by unfold cheapF at h; cases h
  | x :: r, i, j, h => by
    unfold cheapF at h
    by_cases q : 0 < x
    · rw [if_pos q] at h
      cases h
      refine ⟨Nat.le_refl _, by simp, by simpa using q, fun m h1 h2 => by omega⟩
    · rw [if_neg q] at h
      obtain ⟨h1, h2, h3, h4⟩ := cheapF_some h
      refine ⟨by omega, by simp; omega, ?_, fun m m1 m2 => ?_⟩
      · have e : j - i = (j - (i + 1)) + 1 := by omega
        rw [e, List.getD_cons_succ]; exact h3
      · by_cases z : m = i
        · subst z; simp; omega
        · have e : m - i = (m - (i + 1)) + 1 := by omega
          rw [e, List.getD_cons_succ]
          exact h4 m (by omega) m2
theorem cheapF_none : ∀ {c : List Int} {i : Nat}, cheapF i c = none → ∀ m, c.getD m 0 ≤ 0
  | [], i, _, m => by simp
  | x :: r, i, h, m => by
    unfold cheapF at h
    by_cases q : 0 < x
    · rw [if_pos q] at h; cases h
    · rw [if_neg q] at h
      cases m with
      | zero => simp; omega
      | succ m => rw [List.getD_cons_succ]; exact cheapF_none h m
theorem getD_mem_ge {c : List Int} (h : ∀ x ∈ c, 0 ≤ x) (k : Nat) : 0 ≤ c.getD k 0 := by
  by_cases q : k < c.length
  · have e : c.getD k 0 = c[k] := by simp [List.getD, q]
    rw [e]; exact h _ (List.getElem_mem q)
  · have e : c.getD k 0 = 0 := by simp [List.getD, List.getElem?_eq_none (Nat.le_of_not_lt q)]
    rw [e]; exact Int.le_refl 0
theorem more_nonneg {c : List Int} {k : Nat} {m : Int} (h : ∀ x ∈ c, 0 ≤ x) (q : 0 ≤ c.getD k 0 + m) : ∀ x ∈ more c k m, 0 ≤ x := fun x hx => by
  unfold more at hx
  rcases List.mem_append.mp hx with z | z
  · rcases List.mem_append.mp z with z | z
    · exact h x (List.mem_of_mem_take z)
    · have e : x = c.getD k 0 + m := by simpa using z
      rw [e]; exact q
  · exact h x (List.mem_of_mem_drop z)
theorem more_get {c : List Int} {k : Nat} {m : Int} (hk : k < c.length) (i : Nat) : (more c k m).getD i 0 = if i = k then c.getD k 0 + m else c.getD i 0 := by
  have e : more c k m = c.set k (c.getD k 0 + m) := by
    unfold more
    rw [List.set_eq_take_append_cons_drop, if_pos hk]
    simp
  rw [e]
  by_cases q : i = k
  · subst q
    rw [if_pos rfl]
    simp [List.getD, hk]
  · rw [if_neg q]
    simp only [List.getD, List.getElem?_set_ne (Ne.symm q)]
/-! ### shapes -/
structure Sh (n : Nat) (d : PyData) : Prop where
  c : d.canLay0 = true
  d : d.depth ≤ n
theorem Sh.mono {m n : Nat} {d : PyData} (h : Sh m d) (l : m ≤ n) : Sh n d := ⟨h.c, Nat.le_trans h.d l⟩
theorem Sh.shaped {n : Nat} {d : PyData} (h : Sh n d) (l : n ≤ 64) : SeqAt.shaped d = true := by
  unfold SeqAt.shaped
  rw [h.c, decide_eq_true (Nat.le_trans h.d l)]; rfl
theorem sh_all {n : Nat} : ∀ {ds : List PyData}, (∀ d ∈ ds, Sh n d) → PyData.canLayAll0 ds = true ∧ PyData.depthAll ds ≤ n
  | [], _ => by unfold PyData.canLayAll0 PyData.depthAll; exact ⟨rfl, Nat.zero_le _⟩
  | d :: ds, h => by
    unfold PyData.canLayAll0 PyData.depthAll
    obtain ⟨h1, h2⟩ := h d List.mem_cons_self
    obtain ⟨h3, h4⟩ := sh_all (ds := ds) fun e he => h e (List.mem_cons_of_mem _ he)
    rw [h1, h3]
    exact ⟨rfl, by omega⟩
theorem sh_tup {n : Nat} {ds : List PyData} (h : ∀ d ∈ ds, Sh n d) : Sh (n + 1) (.tuple ds) := by
  obtain ⟨h1, h2⟩ := sh_all h
  exact ⟨by unfold PyData.canLay0; exact h1, by unfold PyData.depth; omega⟩
theorem sh_lst {n : Nat} {ds : List PyData} (h : ∀ d ∈ ds, Sh n d) : Sh (n + 1) (.list ds) := by
  obtain ⟨h1, h2⟩ := sh_all h
  exact ⟨by unfold PyData.canLay0; exact h1, by unfold PyData.depth; omega⟩
theorem sh_int (i : Int) : Sh 0 (.int i) := ⟨by unfold PyData.canLay0; rfl, by unfold PyData.depth; exact Nat.le_refl _⟩
theorem sh_none : Sh 0 .none := ⟨by unfold PyData.canLay0; rfl, by unfold PyData.depth; exact Nat.le_refl _⟩
theorem sh_bool (b : Bool) : Sh 0 (.bool b) := ⟨by unfold PyData.canLay0; rfl, by unfold PyData.depth; exact Nat.le_refl _⟩
theorem sh_str {x : Str} (h : PyData.strOk x = true) : Sh 0 (.str x) := ⟨by unfold PyData.canLay0; exact h, by unfold PyData.depth; exact Nat.le_refl _⟩
theorem sh_iT (l : List Int) : Sh 1 (iT l) := sh_tup fun d hd => by
  obtain ⟨i, _, rfl⟩ := List.mem_map.mp hd
  exact sh_int i
theorem sh_rl : ∀ r : Rl, Sh (r.deep + 2) r.d
  | .plain v l => sh_tup fun d hd => by
    rcases List.mem_cons.mp hd with rfl | hd
    · exact (sh_str (by cases v <;> decide +kernel)).mono (Nat.zero_le _)
    · rcases List.mem_cons.mp hd with rfl | hd
      · exact sh_iT l
      · cases hd
  | .all a b => by
    have ha := sh_rl a
    have hb := sh_rl b
    refine Sh.mono (m := (max a.deep b.deep + 2) + 1) (sh_tup fun d hd => ?_) (by simp only [Rl.deep]; omega)
    rcases List.mem_cons.mp hd with rfl | hd
    · exact (sh_str (by decide +kernel)).mono (Nat.zero_le _)
    · rcases List.mem_cons.mp hd with rfl | hd
      · exact ha.mono (by omega)
      · rcases List.mem_cons.mp hd with rfl | hd
        · exact hb.mono (by omega)
        · cases hd
  | .any a b => by
    have ha := sh_rl a
    have hb := sh_rl b
    refine Sh.mono (m := (max a.deep b.deep + 2) + 1) (sh_tup fun d hd => ?_) (by simp only [Rl.deep]; omega)
    rcases List.mem_cons.mp hd with rfl | hd
    · exact (sh_str (by decide +kernel)).mono (Nat.zero_le _)
    · rcases List.mem_cons.mp hd with rfl | hd
      · exact ha.mono (by omega)
      · rcases List.mem_cons.mp hd with rfl | hd
        · exact hb.mono (by omega)
        · cases hd
  | .oust a f => by
    have ha := sh_rl a
    refine Sh.mono (m := (a.deep + 2) + 1) (sh_tup fun d hd => ?_) (by simp only [Rl.deep]; omega)
    rcases List.mem_cons.mp hd with rfl | hd
    · exact (sh_str (by decide +kernel)).mono (Nat.zero_le _)
    · rcases List.mem_cons.mp hd with rfl | hd
      · exact ha
      · rcases List.mem_cons.mp hd with rfl | hd
        · exact (sh_int f).mono (by omega)
        · cases hd
end BL
end

section
set_option Elab.async false
set_option linter.all false
set_option maxRecDepth 100000
set_option maxHeartbeats 4000000
/-! BLc: more rules of data. -/
namespace BL
open PySem PySem.Spec PyProof.Rows L2

/-! ### enumerate(tuple) -/
section
variable {prog : Program} {w : World} {A : Around} {E : Value → Shared → Prop} {s : Shared}
theorem meets_enum_tup (l : Addr) (items : Array Value) (n : Nat) (dct : Option Addr) (sl : Array (Option Value)) :
    Meets (Builtin.«enumerate.__new__» ⟨[.type "enumerate", .ref l], []⟩) (fun _ R s => s.heap.get? l = some { cls := .type "tuple", dict := dct, data := .seq items n, slots := sl } ∧
      R (.ok (.ret (.ref (s.heap.push { cls := .type "tuple_iterator", data := .fields #[.ref l, .int 0 0] }).objs.size)))
        { s with heap := (s.heap.push { cls := .type "tuple_iterator", data := .fields #[.ref l, .int 0 0] }).push { cls := .type "enumerate", data := .fields #[.none, .bool false, .ref s.heap.objs.size, rawInt 0, .none, .none] } }) :=
  .of_wp fun prog w A R s h => by
    obtain ⟨hp, g, d, tk, os⟩ := s
    obtain ⟨hl, h⟩ := h
    have hsub := sub_enumerate
    have hL : Heap.IsTuple (Shared.heap ⟨hp, g, d, tk, os⟩) l items := ⟨_, hl, rfl, n, rfl⟩
    wp_walk using AutoSeq1.wpAny_loadPart' hl
    refine wpAny_stack_any fun st => wpAny_pure ?_
    split
    · rename_i c _ _ _ _ _
      cases (c == Value.type "enumerate")
      · wp_walk using AutoSeq1.wpAny_loadPart' hl, wpAny_pyIter_tuple hL
        exact ⟨_, rfl, h⟩
      · wp_walk using AutoSeq1.wpAny_loadPart' hl, wpAny_pyIter_tuple hL
        exact ⟨_, rfl, h⟩
    · wp_walk using AutoSeq1.wpAny_loadPart' hl, wpAny_pyIter_tuple hL
      exact ⟨_, rfl, h⟩
theorem call_enum_tup {l : Addr} {items : Array Value} {Q : Value → Shared → Prop} (hL : s.heap.IsTuple l items)
    (h : ∀ h', IsEnum h' (s.heap.objs.size + 1) s.heap.objs.size 0 .none → h'.IsTupleIter s.heap.objs.size l 0 → h'.objs.size = s.heap.objs.size + 2 →
      (∀ b o, s.heap.get? b = some o → h'.get? b = some o) → Q (.ref (s.heap.objs.size + 1)) { s with heap := h' }) :
    wpAny (model prog w) A (call (.type "enumerate") [.ref l]) Q E s := by
  obtain ⟨⟨c, dct, dt, sl⟩, hl, hc, n, hd⟩ := hL
  replace hc : c = .type "tuple" := hc
  replace hd : dt = .seq items n := hd
  subst hc hd
  refine callType_new F.called_enumerate (by decide) (F.typeCall_enumerate_1 _) (F.newCall_enumerate_1 _) (fun obj => F.args_object_init_2 obj _) F.entry_enumerate_new
    (meets_enum_tup l items n dct sl) ⟨hl, ?_⟩
  have hz : (s.heap.push { cls := .type "tuple_iterator", data := .fields #[.ref l, .int 0 0] }).objs.size = s.heap.objs.size + 1 := Heap.size_push ..
  show _ ∧ _
  rw [hz]
  have he : IsEnum ((s.heap.push { cls := .type "tuple_iterator", data := .fields #[.ref l, .int 0 0] }).push
      { cls := .type "enumerate", data := .fields #[.none, .bool false, .ref s.heap.objs.size, rawInt 0, .none, .none] }) (s.heap.objs.size + 1) s.heap.objs.size 0 .none := by
    have := Heap.get?_push_size (s.heap.push { cls := .type "tuple_iterator", data := .fields #[.ref l, .int 0 0] })
      (o := { cls := .type "enumerate", data := .fields #[.none, .bool false, .ref s.heap.objs.size, rawInt 0, .none, .none] }) rfl
    rw [hz] at this; exact this
  refine ⟨⟨_, he, rfl⟩, h _ he ⟨_, Heap.get?_push_of_some _ (Heap.get?_push_size _ rfl), rfl, rfl⟩ (by rw [Heap.size_push, hz]) fun b o x => Heap.get?_push_of_some _ (Heap.get?_push_of_some _ x)⟩
end
/-- the tuple at a as it stands at each turn, each item in a new pair -/
def IteT (K : PySem.W.Frag) (a : Addr) : It :=
  ⟨fun i H => ∃ (xs : List V) (x : V), SqT K H a xs ∧ xs[i]? = some x, fun i H v H' => ∃ T x, v = .ref T ∧ H T = none ∧ H' = upd H T (.tup [.int (i : Nat), x]) ∧ ∀ xs, SqT K H a xs → xs[i]? = some x, fun i H => ∃ xs : List V, SqT K H a xs ∧ xs.length ≤ i⟩
theorem tup_ne_iter {h : Heap} {t it : Addr} {i : Nat} {its : Array Value} (h1 : h.IsTuple t its) (h2 : h.IsTupleIter it t i) : t ≠ it := fun z => by
  subst z
  obtain ⟨o, e1, c1, _⟩ := h1
  obtain ⟨o2, e2, c2, _⟩ := h2
  rw [e1] at e2
  cases e2
  rw [c1] at c2
  exact absurd (Value.type.inj c2) (by decide)
theorem turn_enumT {P : Program} {w : World} {K : PySem.W.Frag} {elts : List Expr} {kk : Nat} {tpos : Pos} (a e it : Addr) :
    Turn P w K (.Tuple elts kk tpos) (IteT K a) [e, it] e (fun i h => (∃ old, IsEnum h e it ((i : Nat) : Int) old) ∧ h.IsTupleIter it a i ∧ e ≠ it) where
  mem := by simp
  obj := fun i h st b hb => by
    obtain ⟨⟨old, he⟩, ⟨o, ho, hc, hd⟩, _⟩ := st
    have e' : b = e ∨ b = it := by simpa using hb
    rcases e' with z | z
    · rw [z]; exact ⟨_, he, fun v q => nomatch q⟩
    · rw [z]; exact ⟨o, ho, fun v q => by rw [hd] at q; cases q⟩
  keep := fun i h h' st k => let ⟨⟨old, he⟩, hi, hne⟩ := st; ⟨⟨old, k e (by simp) _ he⟩, hi.at fun o q => k it (by simp) o q, hne⟩
  item := by
    intro X hP hw hK hc i pins s σ H E I hf st hg
    subst hP hw hK
    obtain ⟨⟨old, he⟩, hit, hne⟩ := st
    obtain ⟨xs, x, hq, hx⟩ := hg
    obtain ⟨its, rv, p, hz⟩ := I.tuple hq
    obtain ⟨u, hu, ru⟩ := rv.get hx
    have hel : e < s.heap.objs.size := Heap.lt_size he
    have hil : it < s.heap.objs.size := by obtain ⟨_, q, _⟩ := hit; exact Heap.lt_size q
    have hat : a ≠ it := tup_ne_iter p hit
    have hlt : i < its.toArray.size := by
      have := rv.length
      have h1 : i < xs.length := by
        rcases Nat.lt_or_ge i xs.length with z | z
        · exact z
        · rw [List.getElem?_eq_none z] at hx; cases hx
      rw [List.size_toArray]; omega
    have hae : e ≠ a := fun z => by
      obtain ⟨o, e1, c1, _⟩ := id p
      rw [← z] at e1
      have he1 : s.heap.get? e = some _ := he
      rw [he1] at e1
      cases e1
      exact absurd (Value.type.inj c1) (by decide)
    refine wpAny_pyNext_enum_itemD (Draws.tuple (prog := X.prog) (w := X.w) (A := X.A.in1) (I.ok.hd hc) it a hat its.toArray) he ⟨hit, p⟩ hlt hne (by simp [hne, hae]) fun v h' tk hv ho hs' hT hsz hk => ?_
    have hv' : v = u := by
      have : its[i]? = some v := by simpa using hv
      rw [hu] at this
      exact (Option.some.inj this).symm
    subst hv'
    refine ⟨_, rfl, wpAny_letOwnedTupleGo_enum (s := { s with heap := h', toks := tk + 1 }) ho fun h'' he' sb => ?_⟩
    have hT2 : h''.get? s.heap.objs.size = some { cls := .type "tuple", data := .seq #[.int i tk, v] } := (sb.2 _ (Nat.ne_of_gt hel)).trans hT
    have new : ObjOk X.prog X.w (upd H s.heap.objs.size (.tup [.int (i : Nat), x])) h'' s.heap.objs.size (.tup [.int (i : Nat), x]) :=
      ⟨by show 2 ≤ sizeLine; decide, [.int i tk, v], .cons ⟨_, rfl⟩ (.cons ru .nil), ⟨_, hT2, rfl, _, rfl⟩⟩
    have I1 : Inv X pins σ (upd H s.heap.objs.size (.tup [.int (i : Nat), x])) { s with heap := h'', toks := tk + 1 } :=
      I.turnedNew (ch := [e, it]) (fun b ob hb q => (sb.2 b (fun z => hb (by simp [z]))).trans (hk b ob (fun z => hb (by simp [z])) (fun z => hb (by simp [z])) q)) hf (Nat.le_refl _) new
    refine ⟨.ref s.heap.objs.size, _, I1, rfl, ⟨_, x, rfl, I.hok.fresh (Nat.le_refl _), rfl, fun ys hy => by rw [I.tuple_inj hy hq]; exact hx⟩, ⟨⟨v, ?_⟩, hs'.1.at fun o q => (sb.2 it (Ne.symm hne)).trans q, hne⟩, fun b hb => ?_⟩
    · have e1 : ((i + 1 : Nat) : Int) = (i : Int) + 1 := by omega
      rw [e1]; exact he'
    · have hb' : b < s.heap.objs.size := by
        have e' : b = e ∨ b = it := by simpa using hb
        rcases e' with z | z
        · rw [z]; exact hel
        · rw [z]; exact hil
      rw [upd_ne (Nat.ne_of_lt hb')]
      exact (hf b hb).1
  done := by
    intro X hP hw hK hc i pins s σ H E I hf st hg
    subst hP hw hK
    obtain ⟨⟨old, he⟩, hit, hne⟩ := st
    obtain ⟨xs, hq, hx⟩ := hg
    obtain ⟨its, rv, p, hz⟩ := I.tuple hq
    obtain ⟨f0, f1, f2, f3, f4, f5⟩ := hf it (by simp)
    have hl := rv.length
    have hat : a ≠ it := tup_ne_iter p hit
    unfold pyNext
    have hT : s.TypeIs (.ref e) "enumerate" := ⟨_, he, rfl⟩
    refine wpAny_bind (wpAny_attempt (wpAny_callSpecial?_slot (name := Str.ofString "__next__") hT F.slot_enumerate_next
      (wpAny_call_entry F.slot_enumerate_next hT F.entry_enumerate_next ?_ (F.args_enumerate_next_1 _))))
    show wpAny _ _ (field (.ref e) 2 >>= _) _ _ _
    refine wpAny_bind (wpAny_field he rfl (x := .ref it) rfl ?_)
    refine wpAny_bind (wpAny_nextOf_tuple_end (A := X.A.in1) (I.ok.hd hc) hit p (by simp; omega) fun h' x he' hx' => ?_)
    obtain ⟨o, ho, hcc⟩ := hx'
    refine wpAny_bind (wpAny_isInstance (T := "StopIteration") (b := true) ⟨o, ho, hcc⟩ isSubtype_stop ?_)
    exact wpAny_pure ⟨rfl, I.turned (t' := s.toks) (fun b o hb q => he' b o hb q) f0 f1 f3 f4 f5⟩
  self := fun A i s Q E st h => let ⟨⟨_, he⟩, _⟩ := st; wpAny_pyIter_enum he h
def iEnumT (K : PySem.W.Frag) (ta : TA) : TI := fun σ H R => ta σ H fun vs H1 => ∃ a xs, vs = [.ref a] ∧ SqT K H1 a xs ∧ R (IteT K a) H1
theorem pi_enumT {X : Cx} {e : Expr} {ta : TA} {p pos tpos : Pos} {elts : List Expr} {kk : Nat} (hg : Gl X "enumerate") (hm : X.mg "enumerate" = none) (ha : PA X [e] ta) (hs : starEach [e] X.env = [(false, eval e X.env)] := by rfl) :
    PI X (.Tuple elts kk tpos) (.Call (.Name "enumerate" p) [e] [] pos) (iEnumT X.K ta) := by
  refine ⟨fun pins s σ H R I h => ?_⟩
  refine Call_ (ld_blt I hg hm boot_enumerate (PyProof.Rows.callWith_type1 (thn (ha.run pos pins s σ H _ I h) fun us s1 ⟨vs, H1, I1, r1, q1⟩ => ?_) hs rfl))
  obtain ⟨a, xs, ex, hq, q⟩ := q1
  subst ex
  cases r1 with
  | cons r rr =>
    cases rr
    cases r
    obtain ⟨its, rv, p', hz⟩ := I1.tuple hq
    refine call_enum_tup p' fun h' he hit hsz hk => wpAny_pyIter_enum he ?_
    have I2 : Inv X pins σ H1 { s1 with heap := h' } := I1.kept (t' := s1.toks) hk
    refine ⟨s1.heap.objs.size + 1, [s1.heap.objs.size + 1, s1.heap.objs.size], _, _, H1, rfl, I2, turn_enumT a (s1.heap.objs.size + 1) s1.heap.objs.size, ⟨⟨.none, he⟩, hit, Nat.succ_ne_self _⟩, fun b hb => ?_, q⟩
    have e' : b = s1.heap.objs.size + 1 ∨ b = s1.heap.objs.size := by simpa using hb
    have hle : s1.heap.objs.size ≤ b := by
      rcases e' with z | z
      · rw [z]; exact Nat.le_add_right _ _
      · rw [z]; exact Nat.le_refl _
    exact I1.fpOk hle (I1.hok.fresh hle)
theorem walk_enumT {K : PySem.W.Frag} {a : Addr} {xs : List V} : Walk (IteT K a) xs.length (fun H => SqT K H a xs) (YPair (fun i => some (.int (i : Nat))) (fun i => xs[i]?)) := by
  refine ⟨fun i _ hi q => ⟨xs, xs[i], q, by simp [hi]⟩, fun _ q => ⟨xs, q, Nat.le_refl _⟩, fun i H v H' _ q y => ?_⟩
  obtain ⟨T, x, h1, h2, h3, h4⟩ := y
  exact ⟨T, .int (i : Nat), x, h1, h2, h3, rfl, h4 xs q⟩
section
variable {P : Program} {w : World} {K : PySem.W.Frag} {mg : Str → Option Value} {base : Heap} {k : Nat}
variable {X : Cx} {Γ Γ' : Gm} {Φ : MP} {a b c e tg it : Expr} {es : List Expr} {pos p : Pos} {s t : Sv} {ss : List Sv} {ds : List PyData}
theorem evi_enumT {xs : List PyData} {elts : List Expr} {kk : Nat} {tpos : Pos} (hX : In P w K mg base k X) (g : GlAt X "enumerate") (hm : mg "enumerate" = none) (ha : Ev K X Γ Φ a (.d (.tuple xs)))
    (hs : starEach [a] X.env = [(false, eval a X.env)] := by rfl) : EvI K X Γ Φ (.Tuple elts kk tpos) (.Call (.Name "enumerate" p) [a] [] pos) (enumD 0 xs) := fun σ H R hs' hp k => by
  refine PIto (pi_enumT g.1 (by rw [hX.mg]; exact hm) pa_sem hs) (eva_cons ha eva_nil hs σ H _ hs' hp fun vs H1 e1 q => ?_)
  obtain ⟨v, rfl, q1⟩ := sv1 q
  obtain ⟨p1, us, rfl, t1, r1⟩ := dp_tup q1
  rw [hX.K]
  refine ⟨p1, us, rfl, t1, k _ H1 e1 ⟨_, _, by rw [enumD_len, ← dps_len r1]; exact walk_enumT, fun H' e => same_tup e t1, fun i H2 x H3 e y => ?_⟩⟩
  obtain ⟨T, x1, x2, rfl, n1, rfl, y1, y2⟩ := y
  obtain ⟨d2, g3, g4⟩ := dps_getV r1 y2
  have e3 := same_new (o := .tup [x1, x2]) n1
  cases y1
  refine ⟨e3, _, enumD_get g3, .tup (SqT.of upd_same) (.cons ?_ (.cons (dp_up (e.trans e3) g4) .nil))⟩
  rw [Int.zero_add]
  exact .int _
theorem evi_enumL {xs : List PyData} {elts : List Expr} {kk : Nat} {tpos : Pos} (hX : In P w K mg base k X) (g : GlAt X "enumerate") (hm : mg "enumerate" = none) (ha : Ev K X Γ Φ a (.d (.list xs)))
    (hs : starEach [a] X.env = [(false, eval a X.env)] := by rfl) : EvI K X Γ Φ (.Tuple elts kk tpos) (.Call (.Name "enumerate" p) [a] [] pos) (enumD 0 xs) := fun σ H R hs' hp k => by
  refine PIto (pi_enum g.1 (by rw [hX.mg]; exact hm) pa_sem hs) (eva_cons ha eva_nil hs σ H _ hs' hp fun vs H1 e1 q => ?_)
  obtain ⟨v, rfl, q1⟩ := sv1 q
  obtain ⟨p1, us, rfl, t1, r1⟩ := dp_lst q1
  rw [hX.K]
  refine ⟨p1, us, rfl, t1, k _ H1 e1 ⟨_, _, by rw [enumD_len, ← dps_len r1]; exact walk_enum, fun H' e => e.seq t1, fun i H2 x H3 e y => ?_⟩⟩
  obtain ⟨T, x1, x2, rfl, n1, rfl, y1, y2⟩ := y
  obtain ⟨d2, g3, g4⟩ := dps_getV r1 y2
  have e3 := same_new (o := .tup [x1, x2]) n1
  cases y1
  refine ⟨e3, _, enumD_get g3, .tup (SqT.of upd_same) (.cons ?_ (.cons (dp_up (e.trans e3) g4) .nil))⟩
  rw [Int.zero_add]
  exact .int _
/-! ### comprehensions by tables, over a list of anything -/
/-- the names within a comprehension's block -/
structure BN (os vs : List (Nat × Str)) (gs : List Str) (X' : Cx) : Prop where
  o : ∀ (j : Nat) {i : Nat} {x : Str}, os[j]? = some (i, x) → VarAt X' i x ∧ LocAt X' i x
  v : ∀ (j : Nat) {i : Nat} {x : Str}, vs[j]? = some (i, x) → VarAt X' i x
  g : ∀ (j : Nat) {x : Str}, gs[j]? = some x → GlAt X' x
structure LcA (P : Program) (w : World) (K : PySem.W.Frag) (mg : Str → Option Value) (base : Heap) (k : Nat) (X : Cx) (Γ : Gm) (Φ : MP) (scope : Scope) (wl : List Nat) (os vs : List (Nat × Str)) (gs : List Str) (tg it : Expr) (ifs : List Expr) (elt : Expr) {α : Type} (l : List α) (g : α → PyData) (t : α → Bool) (f : α → PyData) : Prop where
  src : EvI K X Γ Φ tg it (l.map g)
  turn : ∀ a ∈ l, ∃ Γ', ∀ X', In P w K mg base k X' → BN os vs gs X' → TgOk K X' wl tg (g a) (wipeG Γ wl) Γ' ∧ EvTs K X' Γ' Φ ifs (t a) ∧ (t a = true → Ev K X' Γ' Φ elt (.d (f a)))
  nl : ∀ a ∈ l, t a = true → nl (f a) = true
  sz : l.length ≤ 10000
theorem lcA_read {scope : Scope} {wl : List Nat} {ifs : List Expr} {elt : Expr} {α : Type} {l : List α} {g : α → PyData} {t : α → Bool} {f : α → PyData} {os vs : List (Nat × Str)} {gs : List Str} (L : LcA P w K mg base k X Γ Φ scope wl os vs gs tg it ifs elt l g t f)
    (hX : In P w K mg base k X) (hb : ∀ X', Bk X scope X' → BN os vs gs X') {σ : L2.St} {H : Hp} {Q : VK} (hs : Slots K σ H Γ) (hp : Φ.p H)
    (kk : ∀ v H', Same H H' → Dp K H' v (.list ((l.filter t).map f)) → (∃ p acc, v = .ref p ∧ H p = none ∧ H' p = some (.lst acc) ∧ DpAll K H' acc ((l.filter t).map f)) → Q v H') : tLc (tI X tg it) (gB X scope tg) (ttB X scope ifs) (teB X scope elt) wl σ H Q := by
  refine L.src σ H _ hs hp fun J H1 e1 Y => ?_
  intro D hD
  have hD0 : H D = none := by
    cases z : H D with
    | none => rfl
    | some o => rw [e1 _ _ z] at hD; cases hD
  obtain ⟨G, Y, W, hG, hY⟩ := Y
  rw [List.length_map] at W
  refine lc_it W (fun i H' => Same H1 H' ∧ ∃ acc, H' D = some (.lst acc) ∧ acc.length ≤ i ∧ DpAll K H' acc (((l.take i).filter t).map f)) ⟨same_new hD, [], upd_same, Nat.le_refl _, by simp; exact .nil⟩ (fun i H' _ p => hG H' p.1) ?_ ?_
  · intro i x H2 H3 hi p y X' hb'
    obtain ⟨s2, acc, hacc, hal, hdp⟩ := p
    obtain ⟨s3, d, hd, hx⟩ := hY i H2 x H3 s2 y
    obtain ⟨a, ha, rfl⟩ : ∃ a, l[i]? = some a ∧ g a = d := by
      rw [List.getElem?_map] at hd
      cases z : l[i]? with
      | none => rw [z] at hd; cases hd
      | some a => rw [z] at hd; exact ⟨a, rfl, Option.some.inj hd⟩
    have hmem : a ∈ l := List.mem_of_getElem? ha
    obtain ⟨Γ', hT⟩ := L.turn a hmem
    have sl : Slots K (L2.wipe σ wl) H3 (wipeG Γ wl) := (hs.wipe wl).up ((e1.trans s2).trans s3)
    refine (hT X' (hb'.in_ hX) (hb X' hb')).1 _ H3 x _ sl hx fun σ' sl' oth len => ?_
    refine ⟨wipe_eq (by rw [len, wipe_length]) oth, fun X2 hb2 => ?_⟩
    have e3 : Same H1 H3 := s2.trans s3
    refine (hT X2 (hb2.in_ hX) (hb X2 hb2)).2.1 σ' H3 _ sl' (Φ.up (e1.trans e3) hp) fun H4 s4 => ?_
    cases ht : t a with
    | false =>
      refine iteF ⟨e3.trans s4, acc, s4 _ _ (s3 _ _ hacc), by omega, ?_⟩
      rw [take_snoc ha, List.filter_append, List.map_append]
      simp only [List.filter_cons, ht, List.filter_nil, List.map_nil, List.append_nil, Bool.false_eq_true, if_false]
      exact dps_up (s3.trans s4) hdp
    | true =>
      refine iteT fun X3 hb3 => ?_
      refine (hT X3 (hb3.in_ hX) (hb X3 hb3)).2.2 ht σ' H4 _ (sl'.up s4) (Φ.up ((e1.trans e3).trans s4) hp) fun y H5 s5 hy => ?_
      have a5 : H5 D = some (.lst acc) := s5 _ _ (s4 _ _ (s3 _ _ hacc))
      have hz := L.sz
      refine ⟨acc, a5, by rw [sizeLine_eq]; omega, fun b o e => ?_, acc ++ [y], upd_same, by rw [List.length_append]; simp only [List.length_cons, List.length_nil]; omega, ?_⟩
      · have e5 : H5 b = some o := s5 _ _ (s4 _ _ (e3 _ _ e))
        rw [upd_ne (ne_of_none e hD)]
        exact e5
      · rw [take_snoc ha, List.filter_append, List.map_append]
        simp only [List.filter_cons, ht, List.filter_nil, List.map_cons, List.map_nil, if_true]
        have n1 : nls (((l.take i).filter t).map f) = true := nls_all fun z hz' => by
          obtain ⟨u, hu, rfl⟩ := List.mem_map.mp hz'
          obtain ⟨hu1, hu2⟩ := List.mem_filter.mp hu
          exact L.nl u (List.mem_of_mem_take hu1) hu2
        exact dps_snoc (dps_nl (tupS_lst a5) n1 (dps_up ((s3.trans s4).trans s5) hdp)) (dp_nl (tupS_lst a5) (L.nl a hmem ht) hy)
  · intro H' p
    obtain ⟨s2, acc, hacc, _, hdp⟩ := p
    rw [List.take_length] at hdp
    exact kk _ H' (e1.trans s2) (.lst (SqL.of hacc) hdp) ⟨D, acc, rfl, hD0, hacc, hdp⟩
/-- [elt for tg in it if ..] -/
theorem ev_lcF {N : List Str} {sc scope : Scope} (own : List (Str × Nat)) (os vs : List (Nat × Str)) (gs : List Str) {ifs : List Expr} {elt : Expr} {α : Type} (l : List α) (g : α → PyData) (t : α → Bool) (f : α → PyData) (hX : In P w K mg base k X) (hn : Nm N sc X)
    (T : btabB N sc scope own os vs gs = true)
    (src : EvI K X Γ Φ tg it (l.map g))
    (turn : ∀ a ∈ l, ∃ Γ', ∀ X', In P w K mg base k X' → BN os vs gs X' → TgOk K X' (own.map (·.2)) tg (g a) (wipeG Γ (own.map (·.2))) Γ' ∧ EvTs K X' Γ' Φ ifs (t a) ∧ (t a = true → Ev K X' Γ' Φ elt (.d (f a))))
    (hnl : ∀ a ∈ l, t a = true → nl (f a) = true) (sz : l.length ≤ 10000) (hf : ∀ x, foldedSetIterable it X.env x = pure x := by intro _; rfl) : Ev K X Γ Φ (.ListComp elt [⟨tg, it, ifs, 0⟩] scope pos) (.d (.list ((l.filter t).map f))) := fun σ H Q hs hp kk =>
  PEto (pe_lc hX.calm hX.nd pi_sem (btab_ok T hn) gB_ok ttB_ok teB_ok hf) (lcA_read (P := P) (w := w) (mg := mg) (base := base) (k := k) (scope := scope) ⟨src, turn, hnl, sz⟩ hX (fun X' hb => ⟨fun j _ _ e => btab_own T hn hb j e, fun j _ _ e => btab_var T hn hb j e, fun j _ e => btab_glo T hn hb j e⟩) hs hp fun v H' e1 h1 _ => kk v H' e1 h1)
/-- without a test -/
theorem ev_lcM {N : List Str} {sc scope : Scope} (own : List (Str × Nat)) (os vs : List (Nat × Str)) (gs : List Str) {elt : Expr} {α : Type} (l : List α) (g : α → PyData) (f : α → PyData) (hX : In P w K mg base k X) (hn : Nm N sc X)
    (T : btabB N sc scope own os vs gs = true)
    (src : EvI K X Γ Φ tg it (l.map g))
    (turn : ∀ a ∈ l, ∃ Γ', ∀ X', In P w K mg base k X' → BN os vs gs X' → TgOk K X' (own.map (·.2)) tg (g a) (wipeG Γ (own.map (·.2))) Γ' ∧ Ev K X' Γ' Φ elt (.d (f a)))
    (hnl : ∀ a ∈ l, nl (f a) = true) (sz : l.length ≤ 10000) (hf : ∀ x, foldedSetIterable it X.env x = pure x := by intro _; rfl) : Ev K X Γ Φ (.ListComp elt [⟨tg, it, [], 0⟩] scope pos) (.d (.list (l.map f))) := by
  have h := ev_lcF (pos := pos) own os vs gs l g (fun _ => true) f hX hn T src (fun a ha => let ⟨Γ', q⟩ := turn a ha; ⟨Γ', fun X' h1 h2 => ⟨(q X' h1 h2).1, evts_nil, fun _ => (q X' h1 h2).2⟩⟩) (fun a ha _ => hnl a ha) sz hf
  rw [List.filter_eq_self.mpr (fun _ _ => rfl)] at h
  exact h
/-! ### more built-ins -/
theorem cr_sumT (hc : X.calm = true) : CallR X (.builtin "sum") (fun vs H Q => ∃ (a : Addr) (ns : List Int), vs = [V.ref a] ∧ SqT X.K H a (ns.map V.int) ∧ Q (.int ns.sum) H) := by
  intro pins s σ H vs us Q I r h
  obtain ⟨a, ns, rfl, hs, q⟩ := h
  obtain ⟨its, rv, hl, _⟩ := I.tuple hs
  rw [Vals.ref1 r]
  obtain ⟨xs, e⟩ := rv.ints.allInts.items
  have hn : numsOf (intItems xs).toList = ns := by rw [← e]; exact rv.ints.numsOf
  rw [nums_intItems] at hn
  have hl' : s.heap.IsTuple a (intItems xs) := by rw [← e]; exact hl
  refine PySem.W.ktm_sumG (I.ok.hd hc) hl' fun h' tk t' hk => ?_
  have e2 : preSum (numAt xs) xs.size = ns.sum := by
    rw [preSum_eq, List.take_of_length_le (by simp), hn]
  rw [e2]
  exact ⟨.int _, H, I.kept hk, ⟨_, rfl⟩, q⟩
theorem ev_sumT {ns : List Int} (hX : In P w K mg base k X) (g : GlAt X "sum") (hm : mg "sum" = none) (ha : Ev K X Γ Φ e (.d (.tuple (ns.map .int)))) (he : starEach [e] X.env = (false, eval e X.env) :: starEach [] X.env := by rfl) : Ev K X Γ Φ (.Call (.Name "sum" p) [e] [] pos) (.d (.int ns.sum)) :=
  ev_callB hX g (cr_sumT hX.calm) hm rfl (eva_cons ha eva_nil he) (fun vs H Q h _ k => by
    obtain ⟨v, rfl, h1⟩ := sv1 h
    obtain ⟨a, xs, rfl, q1, r1⟩ := dp_tup h1
    rw [dps_ints r1] at q1
    exact ⟨a, ns, rfl, by rw [hX.K]; exact q1, k _ H (Same.refl H) (.int _)⟩) he
/-- sorted(list of ints) -/
def srt (l : List Int) : List Int := l.mergeSort (fun a b => decide (a ≤ b))
theorem srt_perm (l : List Int) : (srt l).Perm l := List.mergeSort_perm l _
theorem srt_sorted (l : List Int) : (srt l).Pairwise (· ≤ ·) := by
  have h := List.pairwise_mergeSort (le := fun a b : Int => decide (a ≤ b)) (fun a b c h1 h2 => by simp at *; omega) (fun a b => by simp; omega) l
  exact h.imp fun h => by simpa using h
theorem perm_sorted_eq {a b : List Int} (h : a.Perm b) (ha : a.Pairwise (· ≤ ·)) (hb : b.Pairwise (· ≤ ·)) : a = b :=
  h.eq_of_pairwise (fun x y _ _ h1 h2 => Int.le_antisymm h1 h2) ha hb
theorem ev_sorted {ns : List Int} (hX : In P w K mg base k X) (g : GlAt X "sorted") (hm : mg "sorted" = none) (ha : Ev K X Γ Φ e (.d (.list (ns.map .int)))) (he : starEach [e] X.env = (false, eval e X.env) :: starEach [] X.env := by rfl) : Ev K X Γ Φ (.Call (.Name "sorted" p) [e] [] pos) (.d (.list ((srt ns).map .int))) :=
  ev_callB hX g cr_sortedI hm rfl (eva_cons ha eva_nil he) (fun vs H Q h _ k => by
    obtain ⟨v, rfl, h1⟩ := sv1 h
    obtain ⟨a, xs, rfl, q1, r1⟩ := dp_lst h1
    rw [dps_ints r1] at q1
    refine ⟨a, ns, rfl, by rw [hX.K]; exact q1, fun ns' p hp hs hn => ?_⟩
    have e2 : ns' = srt ns := perm_sorted_eq (hp.trans (srt_perm ns).symm) hs (srt_sorted ns)
    rw [e2]
    exact k _ _ (same_new hn) (.lst (SqL.of upd_same) (dps_of_ints _))) he
/-- x in (a, b, ..), texts -/
theorem inV_str {xs : List Str} {x : Str} : inV (.str x) (xs.map V.str) = xs.contains x := by
  unfold inV
  induction xs with
  | nil => rfl
  | cons y r ih =>
    rw [List.map_cons, List.any_cons, ih, List.contains_cons]
    have e : eqV (.str y) (.str x) = (x == y) := by
      unfold eqV
      rw [Bool.eq_iff_iff]
      simp
      exact eq_comm
    rw [e]
theorem dps_strs : ∀ {H : Hp} {xs : List V} {ns : List Str}, DpAll K H xs (ns.map PyData.str) → xs = ns.map V.str
  | _, _, [], h => by cases h; rfl
  | _, _, n :: r, h => by
    cases h with | cons h1 h2 =>
    rw [dp_str h1, dps_strs h2]; rfl
theorem flat_strs (xs : List Str) : (xs.map V.str).all flatV = true := by
  induction xs with
  | nil => rfl
  | cons x r ih => rw [List.map_cons, List.all_cons, ih]; rfl
theorem ev_inT {x : Str} {xs : List Str} (hX : In P w K mg base k X) (ha : Ev K X Γ Φ a (.d (.str x))) (hb : Ev K X Γ Φ b (.d (.tuple (xs.map .str)))) (hm : behindInMarks .In b = false := by rfl) : Ev K X Γ Φ (.Compare a [.In] [b] pos) (.d (.bool (xs.contains x))) :=
  ev_cmp2 op_in_seq ha hb hm fun u y H Q h1 h2 _ k => by
    obtain ⟨q, vs, rfl, t1, r1⟩ := dp_tup h2
    rw [dps_strs r1] at t1
    refine ⟨q, _, rfl, .inr (by rw [hX.K]; exact t1), by rw [dp_str h1]; rfl, flat_strs _, ?_⟩
    rw [dp_str h1, if_neg (by decide), inV_str]
    exact k _ H (Same.refl H) (.bl _)
theorem evt_inT {x : Str} {xs : List Str} (hX : In P w K mg base k X) (ha : Ev K X Γ Φ a (.d (.str x))) (hb : Ev K X Γ Φ b (.d (.tuple (xs.map .str)))) (hm : behindInMarks .In b = false := by rfl) : EvT K X Γ Φ (.Compare a [.In] [b] pos) (xs.contains x) :=
  evt_cmp2 op_in_seq ha hb hm fun u y H Q h1 h2 _ k => by
    obtain ⟨q, vs, rfl, t1, r1⟩ := dp_tup h2
    rw [dps_strs r1] at t1
    refine ⟨q, _, rfl, .inr (by rw [hX.K]; exact t1), by rw [dp_str h1]; rfl, flat_strs _, ?_⟩
    rw [dp_str h1, if_neg (by decide), inV_str]
    exact k H (Same.refl H)
/-- == and != of texts -/
theorem ev_eqS {x y : Str} (ha : Ev K X Γ Φ a (.d (.str x))) (hb : Ev K X Γ Φ b (.d (.str y))) : Ev K X Γ Φ (.Compare a [.Eq] [b] pos) (.d (.bool (x == y))) :=
  ev_cmp2 op_eq ha hb (nomark b) fun u v H Q h1 h2 _ k => by
    rw [dp_str h1, dp_str h2]
    refine ⟨rfl, ?_⟩
    rw [dec_str]
    exact k _ H (Same.refl H) (.bl _)
theorem ev_neS {x y : Str} (ha : Ev K X Γ Φ a (.d (.str x))) (hb : Ev K X Γ Φ b (.d (.str y))) : Ev K X Γ Φ (.Compare a [.NotEq] [b] pos) (.d (.bool (!(x == y)))) :=
  ev_cmp2 op_ne ha hb (nomark b) fun u v H Q h1 h2 _ k => by
    rw [dp_str h1, dp_str h2]
    refine ⟨rfl, ?_⟩
    rw [dec_str]
    exact k _ H (Same.refl H) (.bl _)
theorem evt_eqS {x y : Str} (ha : Ev K X Γ Φ a (.d (.str x))) (hb : Ev K X Γ Φ b (.d (.str y))) : EvT K X Γ Φ (.Compare a [.Eq] [b] pos) (x == y) :=
  evt_cmp2 op_eq ha hb (nomark b) fun u v H Q h1 h2 _ k => by
    rw [dp_str h1, dp_str h2]
    refine ⟨rfl, ?_⟩
    rw [dec_str]
    exact k H (Same.refl H)
theorem evt_neS {x y : Str} (ha : Ev K X Γ Φ a (.d (.str x))) (hb : Ev K X Γ Φ b (.d (.str y))) : EvT K X Γ Φ (.Compare a [.NotEq] [b] pos) (!(x == y)) :=
  evt_cmp2 op_ne ha hb (nomark b) fun u v H Q h1 h2 _ k => by
    rw [dp_str h1, dp_str h2]
    refine ⟨rfl, ?_⟩
    rw [dec_str]
    exact k H (Same.refl H)
end
end BL
end

section
set_option Elab.async false
set_option linter.all false
set_option maxRecDepth 100000
set_option maxHeartbeats 4000000
/-! BLp: the pure defs of halls, rules and calls. -/
namespace BL
open PySem PySem.Spec PyProof.Rows L2
section
variable {P : Program} {w : World} {K : PySem.W.Frag} {mg : Str → Option Value} {base : Heap} {k : Nat}
/-- the built-in names are free, the constants are there -/
structure Tx (mg : Str → Option Value) : Prop where
  isi : mg "isinstance" = none
  len : mg "len" = none
  int_ : mg "int" = none
  bool_ : mg "bool" = none
  tuple_ : mg "tuple" = none
  str_ : mg "str" = none
  list_ : mg "list" = none
  all : mg "all" = none
  zip : mg "zip" = none
  range : mg "range" = none
  sum : mg "sum" = none
  enum : mg "enumerate" = none
  repr : mg "repr" = none
  sorted : mg "sorted" = none
  min : mg "min" = none
  seats : ∃ t, mg "MOST_SEATS" = some (.int 6 t)
  fares : ∃ t, mg "MOST_FARES" = some (.int 4 t)
  fare : ∃ t, mg "MOST_FARE" = some (.int 99 t)
  fee : ∃ t, mg "MOST_FEE" = some (.int 99 t)
  words : ∃ t, mg "MOST_WORDS" = some (.int 7 t)
  deep : ∃ t, mg "MOST_DEEP" = some (.int 3 t)
  apart : ∃ t, mg "APART" = some (.str "apart" t)
  nested : ∃ t, mg "NESTED" = some (.str "nested" t)
  kept : ∃ t, mg "KEPT" = some (.str "kept" t)
  all_ : ∃ t, mg "ALL" = some (.str "all" t)
  any_ : ∃ t, mg "ANY" = some (.str "any" t)
  oust : ∃ t, mg "OUST" = some (.str "oust" t)
  calls : ∃ t, mg "MOST_CALLS" = some (.int 400 t)
  taken : ∃ t, mg "TAKEN" = some (.str "taken" t)
  ousted : ∃ t, mg "OUSTED" = some (.str "ousted" t)
  refused : ∃ t, mg "REFUSED" = some (.str "refused" t)
  deeds : ∃ t, mg "MOST_DEEDS" = some (.int 400 t)
  call : ∃ t, mg "CALL" = some (.str "call" t)
  give : ∃ t, mg "GIVE" = some (.str "give" t)
  change : ∃ t, mg "CHANGE" = some (.str "change" t)

/-- the def x of the module stands as written -/
def FnF (K : PySem.W.Frag) (mg : Str → Option Value) (x : Str) (st : Stmt) (ps : List Str) : Prop := ∃ f fd, Fun K x x st f fd ∧ Binds K fd ps [] ∧ mg x = some (.ref f)
theorem pfn_of {x : Str} {st : Stmt} {N ps : List Str} {R : List PyData → PyData → Prop} (F : FnF K mg x st ps) (S : FnScope N ps (defScope st)) (hl : ∀ ds d, R ds d → ds.length = ps.length)
    (body : ∀ X, In P w K mg base k X → Nm N (defScope st) X → ∀ ds d, R ds d → Run K X (startG N ds) MP.top (defBody st) (.rt (.d d))) : PFn P w K mg base (k + 1) x R := by
  obtain ⟨f, fd, F, hb, hm⟩ := F
  exact pfn_mk F S hb hm hl body
theorem eqv_int (i j : Int) : PyData.eqv (.int i) (.int j) = decide (i = j) := rfl
theorem eqv_str (i j : Str) : PyData.eqv (.str i) (.str j) = (i == j) := rfl
variable {X : Cx} {Γ : Gm} {Φ : MP} {a b c e : Expr} {es : List Expr} {pos p : Pos} {s t : Sv} {ss : List Sv}
/-! ### is_whole -/
inductive R_whole : List PyData → PyData → Prop where
  | int (i a b : Int) : R_whole [.int i, .int a, .int b] (.bool (decide (a ≤ i) && decide (i ≤ b)))
  | str (x : Str) (a b : Int) : R_whole [.str x, .int a, .int b] (.bool false)
theorem f_whole (T : Tx mg) (F : FnF K mg "is_whole" s_is_whole ["value", "least", "most"]) : PFn P w K mg base 1 "is_whole" R_whole := by
  refine pfn_of F sc_is_whole (fun ds d h => by cases h <;> rfl) fun X hX hn ds d h => ?_
  have V := fun (j : Nat) {i : Nat} {x : Str} e => (tab_loc tb_is_whole hn (i := i) (x := x) j e).1
  have G := fun (j : Nat) {x : Str} e => tab_glo tb_is_whole hn (x := x) j e
  cases h with
  | int i a b =>
    exact run_one (runS_ret (Ev.to (ev_and (ev_isi hX (G 0 rfl) T.isi rfl (G 1 rfl) T.int_ rfl (ev_var (V 0 rfl) rfl) rfl)
      fun _ => ev_and (ev_not (ev_isi hX (G 0 rfl) T.isi rfl (G 2 rfl) T.bool_ rfl (ev_var (V 0 rfl) rfl) rfl))
      fun _ => ev_one (ev_chain (ev_var (V 1 rfl) rfl) (ev_var (V 0 rfl) rfl) (ev_var (V 2 rfl) rfl))) rfl))
  | str x a b =>
    exact run_one (runS_ret (Ev.to (ev_and (y := true) (ev_isi hX (G 0 rfl) T.isi rfl (G 1 rfl) T.int_ rfl (ev_var (V 0 rfl) rfl) rfl) (fun z => nomatch z)) rfl))
/-- is_whole(e, lo, hi) of an int -/
theorem ev_whole {j : Nat} {e1 e2 e3 : Expr} {i lo hi : Int} (hX : In P w K mg base k X) (F : PFn P w K mg base j "is_whole" R_whole) (g : GlAt X "is_whole") (hj : j ≤ k) (h1 : Ev K X Γ Φ e1 (.d (.int i))) (h2 : Ev K X Γ Φ e2 (.d (.int lo))) (h3 : Ev K X Γ Φ e3 (.d (.int hi)))
    (s1 : starEach [e1, e2, e3] X.env = (false, eval e1 X.env) :: starEach [e2, e3] X.env := by rfl) (s2 : starEach [e2, e3] X.env = (false, eval e2 X.env) :: starEach [e3] X.env := by rfl) (s3 : starEach [e3] X.env = (false, eval e3 X.env) :: starEach [] X.env := by rfl)
    (hpl : (backTo pos (starEach [e2, e3] X.env)).any (·.1) = false := by rfl) : Ev K X Γ Φ (.Call (.Name "is_whole" p) [e1, e2, e3] [] pos) (.d (.bool (decide (lo ≤ i) && decide (i ≤ hi)))) :=
  ev_call (ds := [.int i, .int lo, .int hi]) hX F g hj (eva_cons h1 (eva_cons h2 (eva_cons h3 eva_nil s3) s2) s1) (R_whole.int i lo hi) s1 hpl
/-! ### need_hall -/
inductive R_hall : List PyData → PyData → Prop where
  | mk (h : Hl) (ok : h.Ok) : R_hall [h.d] h.d
theorem zip_tail_asc : ∀ (l : List Int), (List.zip l (l.drop 1)).all (fun p => decide (p.1 < p.2)) = asc l
  | [] => rfl
  | [a] => rfl
  | a :: b :: r => by
    have ih := zip_tail_asc (b :: r)
    show (decide (a < b) && (List.zip (b :: r) r).all _) = _
    rw [show (b :: r).drop 1 = r from rfl] at ih
    rw [ih]; rfl
theorem zip_tail_ascL : ∀ (l : List Int), (List.zip l (l.drop 1)).all (fun p => decide (p.1 ≤ p.2)) = ascL l
  | [] => rfl
  | [a] => rfl
  | a :: b :: r => by
    have ih := zip_tail_ascL (b :: r)
    show (decide (a ≤ b) && (List.zip (b :: r) r).all _) = _
    rw [show (b :: r).drop 1 = r from rfl] at ih
    rw [ih]; rfl
theorem zipD_map : ∀ (l m : List Int), zipD (l.map PyData.int) (m.map PyData.int) = (List.zip l m).map fun p => PyData.tuple [.int p.1, .int p.2]
  | [], _ => by simp [zipD]
  | _ :: _, [] => by simp [zipD]
  | a :: l, b :: m => by simp [zipD, zipD_map l m]
theorem cutG_map {α β : Type} (f : α → β) (l : List α) (lo hi : Option Int) : cutG (l.map f) lo hi = (cutG l lo hi).map f := by
  unfold cutG; simp [List.map_take, List.map_drop]
theorem cutG_from {α : Type} (l : List α) (n : Nat) : cutG l (some (n : Int)) none = l.drop n := by
  unfold cutG
  rw [HT.sIx_nat, HT.sIx_none]
  by_cases h : n ≤ l.length
  · rw [Nat.min_eq_left h, ← List.length_drop, List.take_length]
  · rw [Nat.min_eq_right (by omega), List.drop_length, List.drop_eq_nil_of_le (by omega)]; simp
theorem cutG_to {α : Type} (l : List α) (n : Nat) : cutG l none (some (n : Int)) = l.take n := by
  unfold cutG
  rw [HT.sIx_nat, HT.sIx_none, List.drop_zero, Nat.sub_zero]
  by_cases h : n ≤ l.length
  · rw [Nat.min_eq_left h]
  · rw [Nat.min_eq_right (by omega), List.take_length, List.take_of_length_le (by omega)]
theorem atI_nat {α : Type} (l : List α) (n : Nat) : atI l (n : Int) = l[n]? := by
  unfold atI
  by_cases h : n < l.length
  · rw [show ixN l.length (n : Int) = some n from by unfold ixN; simp [h]]
    rfl
  · rw [show ixN l.length (n : Int) = none from by unfold ixN; simp [h]]
    rw [List.getElem?_eq_none (by omega)]
    rfl
theorem atI_zero {α : Type} (a : α) (r : List α) : atI (a :: r) 0 = some a := atI_nat (a :: r) 0
theorem iT_get {l : List Int} {n : Nat} (h : n < l.length) : atI (l.map PyData.int) (n : Int) = some (.int (l.getD n 0)) := by
  rw [atI_nat, List.getElem?_map, List.getElem?_eq_getElem h]
  simp [List.getD, h]
theorem nl_int (i : Int) : nl (.int i) = true := by unfold nl; rfl
theorem nl_bool (i : Bool) : nl (.bool i) = true := by unfold nl; rfl
theorem nl_str (i : Str) : nl (.str i) = true := by unfold nl; rfl
theorem nl_none : nl .none = true := by unfold nl; rfl
theorem nls_ints (l : List Int) : nls (l.map PyData.int) = true := nls_all fun d hd => by
  obtain ⟨i, _, rfl⟩ := List.mem_map.mp hd
  exact nl_int i
theorem nl_tup {ds : List PyData} (h : nls ds = true) : nl (.tuple ds) = true := by unfold nl; exact h
theorem nl_iT (l : List Int) : nl (iT l) = true := nl_tup (nls_ints l)
theorem map_bools {α : Type} (l : List α) (f : α → Bool) : l.map (fun a => PyData.bool (f a)) = (l.map f).map PyData.bool := by rw [List.map_map]; rfl
/-- all([..]) of a comprehension -/
theorem ev_allM {α : Type} {l : List α} {f : α → Bool} (hX : In P w K mg base k X) (g : GlAt X "all") (hm : mg "all" = none) (ha : Ev K X Γ Φ e (.d (.list (l.map fun a => PyData.bool (f a))))) (he : starEach [e] X.env = (false, eval e X.env) :: starEach [] X.env := by rfl) : Ev K X Γ Φ (.Call (.Name "all" p) [e] [] pos) (.d (.bool (l.all f))) := by
  rw [map_bools] at ha
  have h := ev_allL (p := p) (pos := pos) hX g hm rfl ha he
  rw [List.all_map] at h
  exact h
theorem f_need_hall (T : Tx mg) (F : FnF K mg "need_hall" s_need_hall ["hall"]) (Fw : PFn P w K mg base 1 "is_whole" R_whole) : PFn P w K mg base 2 "need_hall" R_hall := by
  refine pfn_of F sc_need_hall (fun ds d h => by cases h; rfl) fun X hX hn ds d h => ?_
  have V := fun (j : Nat) {i : Nat} {x : Str} e => (tab_loc tb_need_hall hn (i := i) (x := x) j e).1
  have G := fun (j : Nat) {x : Str} e => tab_glo tb_need_hall hn (x := x) j e
  cases h with
  | mk h ok =>
    obtain ⟨s, fs⟩ := h
    obtain ⟨s1, s6, n1, n4, fb, up⟩ := ok
    simp only at s1 s6 n1 n4 fb up
    refine run_no (EvT.to (EvT.ofW (evw_or (evt_not (evt_val (ev_isi hX (G 0 rfl) T.isi rfl (G 1 rfl) T.tuple_ rfl (ev_var (V 0 rfl) rfl) rfl))) fun _ => evw_or1 (evt_ne hX (ev_lenT hX (G 2 rfl) T.len (ev_var (V 0 rfl) rfl)) ev_int))) rfl) ?_
    refine run_no (EvT.to (evt_not (evt_val (ev_whole hX Fw (G 4 rfl) (Nat.le_refl _) (ev_ixT hX (ev_var (V 0 rfl) rfl) ev_int rfl) ev_int (ev_gint hX (G 5 rfl) T.seats)))) (by simp; omega)) ?_
    refine run_no (EvT.to (EvT.ofW (evw_or (evt_not (evt_val (ev_isi hX (G 0 rfl) T.isi rfl (G 1 rfl) T.tuple_ rfl (ev_ixT hX (ev_var (V 0 rfl) rfl) ev_int rfl) rfl))) fun _ => evw_or1 (evt_not (evt_chain ev_int (ev_lenT hX (G 2 rfl) T.len (ev_ixT hX (ev_var (V 0 rfl) rfl) ev_int rfl)) (ev_gint hX (G 6 rfl) T.fares))))) (by simp; omega)) ?_
    refine run_no (EvT.to (evt_not (evt_val (ev_allM (l := fs) (f := fun a => decide (1 ≤ a) && decide (a ≤ 99)) hX (G 7 rfl) T.all
      (ev_lcM [("fare", 1)] [(1, "fare")] [] ["is_whole", "MOST_FARE"] fs PyData.int _ hX hn (by decide +kernel) (evi_tup hX (ev_ixT hX (ev_var (V 0 rfl) rfl) ev_int rfl))
        (fun a ha => ⟨_, fun X' hX' B => ⟨tg_name hX'.nd (B.o 0 rfl).2 (by simp), ev_whole hX' Fw (B.g 0 rfl) (Nat.le_refl _) (ev_var (B.o 0 rfl).1 rfl) ev_int (ev_gint hX' (B.g 1 rfl) T.fare)⟩⟩)
        (fun a _ => nl_bool _) (by omega))))) ?_) ?_
    · rw [List.all_eq_true.mpr fun a ha => by have := fb a ha; simp; omega]; rfl
    refine run_no (EvT.to (evt_not (evt_val (ev_allM (l := List.zip fs (fs.drop 1)) (f := fun q => decide (q.1 < q.2)) hX (G 7 rfl) T.all
      (ev_lcM [("one", 2), ("other", 3)] [(2, "one"), (3, "other")] [] [] (List.zip fs (fs.drop 1)) (fun q => .tuple [.int q.1, .int q.2]) _ hX hn (by decide +kernel)
        (by
          rw [← zipD_map, List.map_drop]
          exact evi_zipT hX (G 8 rfl) T.zip (ev_ixT hX (ev_var (V 0 rfl) rfl) ev_int rfl) (Ev.to (ev_slT (l := some ((1 : Nat) : Int)) (u := none) hX (ev_ixT hX (ev_var (V 0 rfl) rfl) ev_int rfl) ev_int trivial) (by rw [cutG_from])))
        (fun q hq => ⟨_, fun X' hX' B => ⟨tg_tup hX' (tgs_cons (tg_name hX'.nd (B.o 0 rfl).2 (by simp)) (tgs_cons (tg_name hX'.nd (B.o 1 rfl).2 (by simp)) tgs_nil)) rfl, ev_lt (ev_var (B.o 0 rfl).1 rfl) (ev_var (B.o 1 rfl).1 rfl)⟩⟩)
        (fun a _ => nl_bool _) (by rw [List.length_zip]; omega))))) ?_) ?_
    · rw [zip_tail_asc, up]; rfl
    exact run_one (runS_ret (ev_var (V 0 rfl) rfl))
/-! ### are_limits, is_plain, is_word -/
inductive R_limits : List PyData → PyData → Prop where
  | mk (h : Hl) (l : List Int) (ok : h.Ok) (q : LimOk h l) : R_limits [h.d, iT l] (.bool true)
theorem f_are_limits (T : Tx mg) (F : FnF K mg "are_limits" s_are_limits ["hall", "value"]) (Fw : PFn P w K mg base 1 "is_whole" R_whole) : PFn P w K mg base 2 "are_limits" R_limits := by
  refine pfn_of F sc_are_limits (fun ds d h => by cases h; rfl) fun X hX hn ds d h => ?_
  have V := fun (j : Nat) {i : Nat} {x : Str} e => (tab_loc tb_are_limits hn (i := i) (x := x) j e).1
  have G := fun (j : Nat) {x : Str} e => tab_glo tb_are_limits hn (x := x) j e
  cases h with
  | mk h l ok q =>
    obtain ⟨s, fs⟩ := h
    obtain ⟨q1, q2⟩ := q
    simp only at q1 q2
    have hn4 := ok.n4
    simp only at hn4
    refine run_no (EvT.to (EvT.ofW (evw_or (evt_not (evt_val (ev_isi hX (G 0 rfl) T.isi rfl (G 1 rfl) T.tuple_ rfl (ev_var (V 1 rfl) rfl) rfl))) fun _ => evw_or1 (evt_ne hX (ev_lenT hX (G 2 rfl) T.len (ev_var (V 1 rfl) rfl)) (ev_lenT hX (G 2 rfl) T.len (ev_ixT hX (ev_var (V 0 rfl) rfl) ev_int rfl))))) ?_) ?_
    · rw [eqv_int, List.length_map, List.length_map, q1]; simp
    refine run_one (runS_ret (Ev.to (ev_allM (l := l) (f := fun a => decide (0 ≤ a) && decide (a ≤ s)) hX (G 3 rfl) T.all
      (ev_lcM [("limit", 2)] [(2, "limit")] [(0, "hall")] ["is_whole"] l PyData.int _ hX hn (by decide +kernel) (evi_tup hX (ev_var (V 1 rfl) rfl))
        (fun a ha => ⟨_, fun X' hX' B => ⟨tg_name hX'.nd (B.o 0 rfl).2 (by simp), ev_whole hX' Fw (B.g 0 rfl) (Nat.le_refl _) (ev_var (B.o 0 rfl).1 rfl) ev_int (ev_ixT hX' (ev_var (B.v 0 rfl) rfl) ev_int rfl)⟩⟩)
        (fun a _ => nl_bool _) (by omega))) ?_))
    rw [List.all_eq_true.mpr fun a ha => by have := q2 a ha; simp; omega]
inductive R_plain : List PyData → PyData → Prop where
  | mk (h : Hl) (v : Wd) (l : List Int) (ok : h.Ok) (q : LimOk h l) (z : v = .nested → ascL l = true) : R_plain [h.d, (Rl.plain v l).d] (.bool true)
theorem nm_ne (v : Wd) : (v.nm == ("nested" : Str)) = decide (v = .nested) := by cases v <;> decide
theorem f_is_plain (T : Tx mg) (F : FnF K mg "is_plain" s_is_plain ["hall", "value"]) (Fl : PFn P w K mg base 2 "are_limits" R_limits) : PFn P w K mg base 3 "is_plain" R_plain := by
  refine pfn_of F sc_is_plain (fun ds d h => by cases h; rfl) fun X hX hn ds d h => ?_
  have V := fun (j : Nat) {i : Nat} {x : Str} e => (tab_loc tb_is_plain hn (i := i) (x := x) j e).1
  have G := fun (j : Nat) {x : Str} e => tab_glo tb_is_plain hn (x := x) j e
  cases h with
  | mk h v l ok q z =>
    have hl := q.n
    have hn4 := ok.n4
    refine run_no (EvT.to (EvT.ofW (evw_or (evt_ne hX (ev_lenT hX (G 0 rfl) T.len (ev_var (V 1 rfl) rfl)) ev_int) fun _ => evw_or1 (evt_not (evt_val (ev_call (ds := [h.d, iT l]) (d := .bool true) hX Fl (G 1 rfl) (Nat.le_refl _) (eva_cons (ev_var (V 0 rfl) rfl) (eva_cons (ev_ixT hX (ev_var (V 1 rfl) rfl) ev_int rfl) eva_nil)) (.mk h l ok q)))))) rfl) ?_
    refine run_one (runS_ret (Ev.to (ev_or (y := ascL l) (ev_neS (ev_ixT hX (ev_var (V 1 rfl) rfl) ev_int rfl) (ev_gstr hX (G 2 rfl) T.nested)) fun _ => ev_one (Ev.to (ev_allM (l := List.zip l (l.drop 1)) (f := fun q => decide (q.1 ≤ q.2)) hX (G 3 rfl) T.all
      (ev_lcM [("one", 2), ("other", 3)] [(2, "one"), (3, "other")] [] [] (List.zip l (l.drop 1)) (fun q => .tuple [.int q.1, .int q.2]) _ hX hn (by decide +kernel)
        (by
          rw [← zipD_map, List.map_drop]
          exact evi_zipT hX (G 4 rfl) T.zip (ev_ixT hX (ev_var (V 1 rfl) rfl) ev_int rfl) (Ev.to (ev_slT (l := some ((1 : Nat) : Int)) (u := none) hX (ev_ixT hX (ev_var (V 1 rfl) rfl) ev_int rfl) ev_int trivial) (by rw [cutG_from])))
        (fun q hq => ⟨_, fun X' hX' B => ⟨tg_tup hX' (tgs_cons (tg_name hX'.nd (B.o 0 rfl).2 (by simp)) (tgs_cons (tg_name hX'.nd (B.o 1 rfl).2 (by simp)) tgs_nil)) rfl, ev_le (ev_var (B.o 0 rfl).1 rfl) (ev_var (B.o 1 rfl).1 rfl)⟩⟩)
        (fun a _ => nl_bool _) (by rw [List.length_zip]; omega))) ?_)) ?_))
    · rw [zip_tail_ascL]
    · show Sv.d (.bool (!(v.nm == "nested") || ascL l)) = _
      rw [nm_ne]
      by_cases e : v = .nested
      · rw [z e]; simp
      · rw [decide_eq_false e]; rfl
inductive R_word : List PyData → PyData → Prop where
  | mk (h : Hl) (r : Rl) (o : Bool) (ok : h.Ok) (q : if o = true then r.OkR h else r.In h) (dp : r.deep ≤ 10) : R_word [h.d, r.d, .bool o] (.bool true)
theorem f_is_word (T : Tx mg) (F : FnF K mg "is_word" s_is_word ["hall", "value", "is_outside"]) (Fw : PFn P w K mg base 1 "is_whole" R_whole) (Fp : PFn P w K mg base 3 "is_plain" R_plain) : PFn P w K mg base 4 "is_word" R_word := by
  refine pfn_of F sc_is_word (fun ds d h => by cases h; rfl) fun X hX hn ds d h => ?_
  have V := fun (j : Nat) {i : Nat} {x : Str} e => (tab_loc tb_is_word hn (i := i) (x := x) j e).1
  have G := fun (j : Nat) {x : Str} e => tab_glo tb_is_word hn (x := x) j e
  cases h with
  | mk h r o ok q dp =>
    have first : ∀ (ds : List PyData) (z : Str) (d1 : PyData) (rest : List PyData), r.d = .tuple ds → ds = .str z :: d1 :: rest →
        Run K X (startG n_is_word [h.d, r.d, .bool o]) MP.top ((defBody s_is_word).drop 1) (.rt (.d (.bool true))) → Run K X (startG n_is_word [h.d, r.d, .bool o]) MP.top (defBody s_is_word) (.rt (.d (.bool true))) := fun ds z d1 rest e1 e2 h' => by
      subst e2
      have vv : ∀ pos, Ev K X (startG n_is_word [h.d, r.d, .bool o]) MP.top (.Name "value" pos) (.d (.tuple (.str z :: d1 :: rest))) := fun pos => ev_var (V 1 rfl) (by rw [← e1]; rfl)
      refine run_no (EvT.to (EvT.ofW (evw_or (evt_not (evt_val (ev_isi hX (G 0 rfl) T.isi rfl (G 1 rfl) T.tuple_ rfl (vv _) rfl))) fun _ => evw_or (evt_eq hX (vv _) (ev_tup (ds := []) eva_nil (by decide)) (by rw [← e1]; exact (sh_rl r).shaped (by omega))) fun _ => evw_or1 (evt_not (evt_val (ev_isi (d := .str z) hX (G 0 rfl) T.isi rfl (G 2 rfl) T.str_ rfl (ev_ixT hX (vv _) ev_int (atI_zero _ _)) rfl))))) ?_) h'
      rfl
    cases r with
    | plain v l =>
      have q' : LimOk h l ∧ (v = .nested → ascL l = true) := by
        cases o <;> exact q
      refine first _ _ _ _ rfl rfl ?_
      refine run_guard (EvT.to (evt_inT (xs := ["apart", "nested", "kept"]) hX (ev_ixT hX (ev_var (V 1 rfl) rfl) ev_int rfl) (ev_tup (ds := [.str "apart", .str "nested", .str "kept"]) (eva_cons (ev_gstr hX (G 3 rfl) T.apart) (eva_cons (ev_gstr hX (G 4 rfl) T.nested) (eva_cons (ev_gstr hX (G 5 rfl) T.kept) eva_nil))) (by decide))) (show _ = true by cases v <;> decide)) (fun _ => ?_) (fun z => nomatch z)
      exact run_one (runS_ret (ev_call (ds := [h.d, (Rl.plain v l).d]) hX Fp (G 6 rfl) (Nat.le_refl _) (eva_cons (ev_var (V 0 rfl) rfl) (eva_cons (ev_var (V 1 rfl) rfl) eva_nil)) (.mk h v l ok q'.1 q'.2)))
    | all a b =>
      refine first _ _ _ _ rfl rfl ?_
      refine run_no (EvT.to (evt_inT (xs := ["apart", "nested", "kept"]) hX (ev_ixT hX (ev_var (V 1 rfl) rfl) ev_int rfl) (ev_tup (ds := [.str "apart", .str "nested", .str "kept"]) (eva_cons (ev_gstr hX (G 3 rfl) T.apart) (eva_cons (ev_gstr hX (G 4 rfl) T.nested) (eva_cons (ev_gstr hX (G 5 rfl) T.kept) eva_nil))) (by decide))) (by decide)) ?_
      refine run_guard (EvT.to (evt_inT (xs := ["all", "any"]) hX (ev_ixT hX (ev_var (V 1 rfl) rfl) ev_int rfl) (ev_tup (ds := [.str "all", .str "any"]) (eva_cons (ev_gstr hX (G 7 rfl) T.all_) (eva_cons (ev_gstr hX (G 8 rfl) T.any_) eva_nil)) (by decide))) (show _ = true by decide)) (fun _ => ?_) (fun z => nomatch z)
      exact run_one (runS_ret (Ev.to (ev_eq hX (ev_lenT hX (G 9 rfl) T.len (ev_var (V 1 rfl) rfl)) ev_int) rfl))
    | any a b =>
      refine first _ _ _ _ rfl rfl ?_
      refine run_no (EvT.to (evt_inT (xs := ["apart", "nested", "kept"]) hX (ev_ixT hX (ev_var (V 1 rfl) rfl) ev_int rfl) (ev_tup (ds := [.str "apart", .str "nested", .str "kept"]) (eva_cons (ev_gstr hX (G 3 rfl) T.apart) (eva_cons (ev_gstr hX (G 4 rfl) T.nested) (eva_cons (ev_gstr hX (G 5 rfl) T.kept) eva_nil))) (by decide))) (by decide)) ?_
      refine run_guard (EvT.to (evt_inT (xs := ["all", "any"]) hX (ev_ixT hX (ev_var (V 1 rfl) rfl) ev_int rfl) (ev_tup (ds := [.str "all", .str "any"]) (eva_cons (ev_gstr hX (G 7 rfl) T.all_) (eva_cons (ev_gstr hX (G 8 rfl) T.any_) eva_nil)) (by decide))) (show _ = true by decide)) (fun _ => ?_) (fun z => nomatch z)
      exact run_one (runS_ret (Ev.to (ev_eq hX (ev_lenT hX (G 9 rfl) T.len (ev_var (V 1 rfl) rfl)) ev_int) rfl))
    | oust a fee =>
      cases o with
      | false => exact q.elim
      | true =>
        obtain ⟨_, f0, f1⟩ := q
        refine first _ _ _ _ rfl rfl ?_
        refine run_no (EvT.to (evt_inT (xs := ["apart", "nested", "kept"]) hX (ev_ixT hX (ev_var (V 1 rfl) rfl) ev_int rfl) (ev_tup (ds := [.str "apart", .str "nested", .str "kept"]) (eva_cons (ev_gstr hX (G 3 rfl) T.apart) (eva_cons (ev_gstr hX (G 4 rfl) T.nested) (eva_cons (ev_gstr hX (G 5 rfl) T.kept) eva_nil))) (by decide))) (by decide)) ?_
        refine run_no (EvT.to (evt_inT (xs := ["all", "any"]) hX (ev_ixT hX (ev_var (V 1 rfl) rfl) ev_int rfl) (ev_tup (ds := [.str "all", .str "any"]) (eva_cons (ev_gstr hX (G 7 rfl) T.all_) (eva_cons (ev_gstr hX (G 8 rfl) T.any_) eva_nil)) (by decide))) (by decide)) ?_
        refine run_one (runS_ret (Ev.to (ev_and (ev_eqS (ev_ixT hX (ev_var (V 1 rfl) rfl) ev_int rfl) (ev_gstr hX (G 10 rfl) T.oust)) fun _ => ev_and (ev_var (V 2 rfl) rfl) fun _ => ev_and (ev_eq hX (ev_lenT hX (G 9 rfl) T.len (ev_var (V 1 rfl) rfl)) ev_int) fun _ => ev_one (ev_whole hX Fw (G 11 rfl) (by decide) (ev_ixT hX (ev_var (V 1 rfl) rfl) ev_int rfl) ev_int (ev_gint hX (G 12 rfl) T.fee))) ?_))
        rw [decide_eq_true f0, decide_eq_true f1]; rfl
end
end BL
end

section
set_option Elab.async false
set_option linter.all false
set_option maxRecDepth 100000
set_option maxHeartbeats 4000000
/-! BLq: the pure defs of calls; more rules. -/
namespace BL
open PySem PySem.Spec PyProof.Rows L2
/-! ### (x, ..) * 1 -/
theorem tuple_mulOne (l : Addr) (items : Array Value) (n : Nat) (dd : Option Addr) (sl : Array (Option Value)) (u : Tok) :
    Meets (Builtin.«tuple.__mul__» ⟨[.ref l, .int 1 u], []⟩) (fun _ R s => s.heap.get? l = some { cls := .type "tuple", dict := dd, data := .seq items n, slots := sl } ∧ R (.ok (.ret (Value.ref l))) s) :=
  .of_wp fun prog w A R s h => by
    obtain ⟨hp, g, d, tk, os⟩ := s
    obtain ⟨hl, h⟩ := h
    have f1 := AutoSeq1.idx_int
    wp_walk using AutoSeq1.wpAny_loadPart' hl
    exact ⟨_, rfl, h⟩
def rRepT1 (K : PySem.W.Frag) : R2 := fun x y H Q => ∃ l xs, x = .ref l ∧ y = .int 1 ∧ SqT K H l xs ∧ Q (.ref l) H
section
variable {X : Cx}
theorem op_repT1 : OpR X (binaryOp .Mult) (rRepT1 X.K) := by
  intro pins s σ H x y v u Q I rx ry h
  obtain ⟨l, xs, rfl, rfl, hT, q⟩ := h
  cases rx
  obtain ⟨t, rfl⟩ := ry
  obtain ⟨its, r, ⟨⟨cls, dd, data, sl⟩, ho, hc, n, hd⟩, hs⟩ := I.tuple hT
  simp only at hc hd
  subst hc hd
  exact wpAny_binaryOp_repeat_ref (T := "tuple") (U := "int") (by decide) ⟨_, ho, rfl⟩ (fun s' => typeIs_int s' 1 t) noFill_tuple_mul F.fills_int_mul F.slot_int_rmul repeat_tuple F.slot_int_index.lookup
    (call_meets F.slot_int_rmul (typeIs_int s 1 t) F.entry_int_rmul (F.args_int_rmul_2 _ _) (int_rmul_tuple 1 t l its.toArray n dd sl)
      ⟨ho, rfl, ⟨_, ho, rfl⟩, call_meets F.slot_tuple_mul ⟨_, ho, rfl⟩ F.entry_tuple_mul (F.args_tuple_mul_2 _ _) (tuple_mulOne l its.toArray n dd sl t) ⟨ho, .ref l, H, I, rfl, q⟩⟩)
end
section
variable {P : Program} {w : World} {K : PySem.W.Frag} {mg : Str → Option Value} {base : Heap} {k : Nat}
variable {X : Cx} {Γ : Gm} {Φ : MP} {a b c e tg it : Expr} {es : List Expr} {pos p : Pos} {s t : Sv} {ss : List Sv}
theorem dps_rep {H : Hp} {v : V} {d : PyData} (h : Dp K H v d) : ∀ n, DpAll K H (List.replicate n v) (List.replicate n d)
  | 0 => .nil
  | n + 1 => .cons h (dps_rep h n)
theorem rep_flat {α : Type} (x : α) : ∀ n, (List.replicate n [x]).flatten = List.replicate n x
  | 0 => rfl
  | n + 1 => by rw [List.replicate_succ, List.flatten_cons, rep_flat x n]; rfl
/-- (x,) * n -/
theorem ev_repT {d : PyData} {n : Nat} (hX : In P w K mg base k X) (ha : Ev K X Γ Φ a (.d (.tuple [d]))) (hb : Ev K X Γ Φ b (.d (.int (n : Int)))) (h1 : 1 ≤ n) (h2 : n ≤ 1000) : Ev K X Γ Φ (.BinOp a .Mult b pos) (.d (.tuple (List.replicate n d))) := by
  by_cases h : n = 1
  · subst h
    exact ev_op2 op_repT1 ha hb fun x y H Q q1 q2 _ k => by
      obtain ⟨p, vs, rfl, t1, r1⟩ := dp_tup q1
      exact ⟨p, vs, rfl, dp_int q2, by rw [hX.K]; exact t1, k _ H (Same.refl H) (.tup t1 r1)⟩
  · exact ev_op2 op_repT ha hb fun x y H Q q1 q2 _ k => by
      obtain ⟨p, vs, rfl, t1, r1⟩ := dp_tup q1
      have hl := dps_len r1
      refine ⟨p, (n : Int), vs, rfl, dp_int q2, by rw [hX.K]; exact t1, (fun z => by rw [z] at hl; cases hl), by omega, by omega, by rw [hl]; simp, fun q hq => ?_⟩
      cases r1 with | cons r1 r2 =>
      cases r2
      rw [show ((n : Int)).toNat = n from rfl, rep_flat]
      exact k _ _ (same_new hq) (.tup (SqT.of upd_same) (dps_up (same_new hq) (dps_rep r1 n)))
theorem ev_neg {i : Int} (ha : Ev K X Γ Φ a (.d (.int i))) : Ev K X Γ Φ (.UnaryOp .USub a pos) (.d (.int (-i))) := fun σ H Q hs hp k =>
  PEto (pe_un un_neg pe_sem) (ha σ H _ hs hp fun v H1 e1 h1 => ⟨i, dp_int h1, k _ H1 e1 (.int _)⟩)
/-- isinstance(e, (T1, T2)) of a tuple or list -/
theorem ev_isi2 {d : PyData} {T1 T2 : String} {r : Bool} {x1 x2 : Str} {p1 p2 p3 : Pos} {j : Nat} (hX : In P w K mg base k X) (g : GlAt X "isinstance") (hm : mg "isinstance" = none) (gT : GlAt X x1) (hmT : mg x1 = none) (hvT : bootBuiltins x1 = some (.type T1)) (gT2 : GlAt X x2) (hmT2 : mg x2 = none) (hvT2 : bootBuiltins x2 = some (.type T2))
    (ha : Ev K X Γ Φ e (.d d)) (hk : PySem.W.kitAny K (.type (tyN d)) [.type T1, .type T2] = some r) (he : starEach [e, .Tuple [.Name x1 p1, .Name x2 p2] j p3] X.env = (false, eval e X.env) :: starEach [.Tuple [.Name x1 p1, .Name x2 p2] j p3] X.env := by rfl)
    (he2 : starEach [.Tuple [.Name x1 p1, .Name x2 p2] j p3] X.env = (false, eval (.Tuple [.Name x1 p1, .Name x2 p2] j p3) X.env) :: starEach [] X.env := by rfl) (hpl : (backTo pos (starEach [.Tuple [.Name x1 p1, .Name x2 p2] j p3] X.env)).any (·.1) = false := by rfl) :
    Ev K X Γ Φ (.Call (.Name "isinstance" p) [e, .Tuple [.Name x1 p1, .Name x2 p2] j p3] [] pos) (.d (.bool r)) := fun σ H Q hs hp kk => by
  refine PEto (pe_callB call_isiT g.1 (by rw [hX.mg]; exact hm) rfl pa_sem g.2.2 g.2.1 he hpl) ?_
  refine PAto (pa_cons pe_sem pa_sem he) (ha σ H _ hs hp fun v H1 e1 h1 => PAto (pa_cons pe_sem pa_sem he2) ?_)
  refine PEto (pe_tup pa_sem) ((eva_cons (ev_gty hX gT hmT hvT) (eva_cons (ev_gty hX gT2 hmT2 hvT2) eva_nil) : EvA K X Γ Φ _ [.r (.ty T1), .r (.ty T2)]) σ H1 _ (hs.up e1) (Φ.up e1 hp) fun vs H2 e2 h2 => ?_)
  obtain ⟨u1, u2, rfl, q1, q2⟩ := sv2 h2
  cases (show u1 = V.ty T1 from q1)
  cases (show u2 = V.ty T2 from q2)
  refine ⟨by rw [sizeLine_eq]; simp, fun p hp' => PAto pa_nil ?_⟩
  have e3 := same_new (o := .tup [.ty T1, .ty T2]) hp'
  exact ⟨v, p, [.ty T1, .ty T2], .type (tyN d), [.type T1, .type T2], r, rfl, upd_same, .cons (.ty T1) (.cons (.ty T2) .nil), by rw [hX.K]; exact dp_ty (dp_up (e2.trans e3) h1), by rw [hX.K]; exact hk, kk _ _ ((e1.trans e2).trans e3) (.bl _)⟩
def swB (sc scope : Scope) (x : Str) (px lpos : Pos) : Bool := (if sc.kind.isAnnotationScope then .function else sc.kind) == ScopeKind.function && sc.names.lookup x == some .local && px.line == lpos.line && !(scope.names.any fun (n, k) => n == x && (k == .local || k == .cell))
theorem sw_of {sc scope : Scope} {gens : List Comprehension} {env : Env} {x : Str} {px lpos : Pos} {line : Nat} (h : env.scope = sc) (q : swB sc scope x px lpos = true) : swapsWith (.ListComp e gens scope lpos) (some (.Name x px)) line env = pure true := by
  have e1 : swapsWith (.ListComp e gens scope lpos) (some (.Name x px)) line env = pure (swB env.scope scope x px lpos) := rfl
  rw [e1, h, q]
/-- x = [..] -/
theorem runS_setLcF {N : List Str} {sc scope : Scope} (own : List (Str × Nat)) (os vs : List (Nat × Str)) (gs : List Str) {ifs : List Expr} {elt : Expr} {α : Type} (l : List α) (g : α → PyData) (t : α → Bool) (f : α → PyData) {i : Nat} {x : Str} {px lpos : Pos}
    (hX : In P w K mg base k X) (hn : Nm N sc X) (T : btabB N sc scope own os vs gs = true) (src : EvI K X Γ Φ tg it (l.map g))
    (turn : ∀ a ∈ l, ∃ Γ', ∀ X', In P w K mg base k X' → BN os vs gs X' → TgOk K X' (own.map (·.2)) tg (g a) (wipeG Γ (own.map (·.2))) Γ' ∧ EvTs K X' Γ' Φ ifs (t a) ∧ (t a = true → Ev K X' Γ' Φ elt (.d (f a))))
    (hnl : ∀ a ∈ l, t a = true → nl (f a) = true) (sz : l.length ≤ 10000) (hN : X.N[i]? = some x) (hl : X.env.scope.names.lookup x = some .local)
    (hw : swB sc scope x px lpos = true) (hf : ∀ x, foldedSetIterable it X.env x = pure x := by intro _; rfl) :
    RunS K X Γ Φ (.Assign [.Name x px] (.ListComp elt [⟨tg, it, ifs, 0⟩] scope lpos) pos) (.nx (Γ.set i (some (.d (.list ((l.filter t).map f)))))) := fun σ H D hs hp kk =>
  PSto (ps_setLc hX.calm hX.nd hN hl (sw_of hn.sc hw) pi_sem (btab_ok T hn) gB_ok ttB_ok teB_ok hf) (lcA_read (P := P) (w := w) (mg := mg) (base := base) (k := k) (scope := scope) ⟨src, turn, hnl, sz⟩ hX (fun X' hb => ⟨fun j _ _ e => btab_own T hn hb j e, fun j _ _ e => btab_var T hn hb j e, fun j _ e => btab_glo T hn hb j e⟩) hs hp fun v H' e1 h1 _ => kk _ H' e1 ((hs.up e1).set h1))
theorem Nm.at_ {N : List Str} {sc : Scope} (hn : Nm N sc X) {i : Nat} {x : Str} (h : N[i]? = some x) : X.N[i]? = some x := by rw [hn.N]; exact h
theorem Nm.loc {N : List Str} {sc : Scope} (hn : Nm N sc X) {x : Str} (h : sc.names.lookup x = some .local) : X.env.scope.names.lookup x = some .local := by rw [hn.sc]; exact h
end
end BL
end

section
set_option Elab.async false
set_option linter.all false
set_option maxRecDepth 100000
set_option maxHeartbeats 4000000
/-! BLr: the pure defs of calls. -/
namespace BL
open PySem PySem.Spec PyProof.Rows L2
def Rl.Ln (n : Nat) : Rl → Prop
  | .plain _ l => l.length = n
  | .all a b => a.Ln n ∧ b.Ln n
  | .any a b => a.Ln n ∧ b.Ln n
  | .oust a _ => a.Ln n
theorem Rl.In.ln {h : Hl} : ∀ {r : Rl}, r.In h → r.Ln h.fs.length
  | .plain _ _, q => q.1.n
  | .all _ _, q => ⟨Rl.In.ln q.1, Rl.In.ln q.2⟩
  | .any _ _, q => ⟨Rl.In.ln q.1, Rl.In.ln q.2⟩
  | .oust _ _, q => q.elim
theorem Rl.OkR.ln {h : Hl} : ∀ {r : Rl}, r.OkR h → r.Ln h.fs.length
  | .plain v l, q => Rl.In.ln (r := .plain v l) q
  | .all a b, q => Rl.In.ln (r := .all a b) q
  | .any a b, q => Rl.In.ln (r := .any a b) q
  | .oust a _, q => Rl.In.ln (r := a) q.1
def parts : Rl → List Int
  | .all _ _ => [1, 2]
  | .any _ _ => [1, 2]
  | .oust _ _ => [1]
  | .plain _ _ => []
theorem svI {i j : Int} (h : i = j) : Sv.d (.int i) = Sv.d (.int j) := by rw [h]
theorem svB {i j : Bool} (h : i = j) : Sv.d (.bool i) = Sv.d (.bool j) := by rw [h]
section
variable {P : Program} {w : World} {K : PySem.W.Frag} {mg : Str → Option Value} {base : Heap} {k : Nat}
variable {X : Cx} {Γ : Gm} {Φ : MP} {a b c e tg it : Expr} {es : List Expr} {pos p : Pos} {s t : Sv} {ss : List Sv}
/-- e + 1 at a place -/
theorem ev_suc {n : Nat} {j : Nat} (ha : Ev K X Γ Φ a (.d (.int (n : Int)))) : Ev K X Γ Φ (.BinOp a .Add (.Constant (.int 1) j p) pos) (.d (.int ((n + 1 : Nat) : Int))) := ev_add ha ev_int
/-! ### parts_of -/
inductive R_parts : List PyData → PyData → Prop where
  | mk (r : Rl) : R_parts [r.d] (.list ((parts r).map .int))
theorem f_parts_of (T : Tx mg) (F : FnF K mg "parts_of" s_parts_of ["rule"]) : PFn P w K mg base 1 "parts_of" R_parts := by
  refine pfn_of F sc_parts_of (fun ds d h => by cases h; rfl) fun X hX hn ds d h => ?_
  have V := fun (j : Nat) {i : Nat} {x : Str} e => (tab_loc tb_parts_of hn (i := i) (x := x) j e).1
  have G := fun (j : Nat) {x : Str} e => tab_glo tb_parts_of hn (x := x) j e
  have tp : ∀ {Γ : Gm} {j : Nat} {p1 p2 p3 : Pos}, Ev K X Γ MP.top (.Tuple [.Name "ALL" p1, .Name "ANY" p2] j p3) (.d (.tuple ((["all", "any"] : List Str).map .str))) := ev_tup (ds := [.str "all", .str "any"]) (eva_cons (ev_gstr hX (G 0 rfl) T.all_) (eva_cons (ev_gstr hX (G 1 rfl) T.any_) eva_nil)) (by decide)
  cases h with
  | mk r =>
    refine run_one (runS_ret ?_)
    cases r with
    | plain v l =>
      refine ev_if (EvT.to (evt_inT (xs := ["all", "any"]) hX (ev_ixT hX (ev_var (V 0 rfl) rfl) ev_int rfl) tp) (show _ = false by cases v <;> decide)) (fun z => nomatch z) fun _ => ?_
      refine ev_if (EvT.to (evt_eqS (ev_ixT hX (ev_var (V 0 rfl) rfl) ev_int rfl) (ev_gstr hX (G 2 rfl) T.oust)) (show _ = false by cases v <;> decide)) (fun z => nomatch z) fun _ => ?_
      exact ev_lst (ds := []) eva_nil (by decide)
    | all a b =>
      refine ev_if (EvT.to (evt_inT (xs := ["all", "any"]) hX (ev_ixT hX (ev_var (V 0 rfl) rfl) ev_int rfl) tp) (show _ = true by decide)) (fun _ => ?_) fun z => nomatch z
      exact ev_lst (ds := [.int 1, .int 2]) (eva_cons ev_int (eva_cons ev_int eva_nil)) (by decide)
    | any a b =>
      refine ev_if (EvT.to (evt_inT (xs := ["all", "any"]) hX (ev_ixT hX (ev_var (V 0 rfl) rfl) ev_int rfl) tp) (show _ = true by decide)) (fun _ => ?_) fun z => nomatch z
      exact ev_lst (ds := [.int 1, .int 2]) (eva_cons ev_int (eva_cons ev_int eva_nil)) (by decide)
    | oust a f =>
      refine ev_if (EvT.to (evt_inT (xs := ["all", "any"]) hX (ev_ixT hX (ev_var (V 0 rfl) rfl) ev_int rfl) tp) (show _ = false by decide)) (fun z => nomatch z) fun _ => ?_
      refine ev_if (EvT.to (evt_eqS (ev_ixT hX (ev_var (V 0 rfl) rfl) ev_int rfl) (ev_gstr hX (G 2 rfl) T.oust)) (show _ = true by decide)) (fun _ => ?_) fun z => nomatch z
      exact ev_lst (ds := [.int 1]) (eva_cons ev_int eva_nil) (by decide)
/-! ### none_of, with_more -/
inductive R_none : List PyData → PyData → Prop where
  | mk (h : Hl) (ok : h.Ok) : R_none [h.d] (iT (none0 h))
theorem f_none_of (T : Tx mg) (F : FnF K mg "none_of" s_none_of ["hall"]) : PFn P w K mg base 1 "none_of" R_none := by
  refine pfn_of F sc_none_of (fun ds d h => by cases h; rfl) fun X hX hn ds d h => ?_
  have V := fun (j : Nat) {i : Nat} {x : Str} e => (tab_loc tb_none_of hn (i := i) (x := x) j e).1
  have G := fun (j : Nat) {x : Str} e => tab_glo tb_none_of hn (x := x) j e
  cases h with
  | mk h ok =>
    have n1 := ok.n1
    have n4 := ok.n4
    refine run_one (runS_ret (Ev.to (ev_repT (d := .int 0) (n := h.fs.length) hX (ev_tup (ds := [.int 0]) (eva_cons ev_int eva_nil) (by decide)) (Ev.to (ev_lenT hX (G 0 rfl) T.len (ev_ixT hX (ev_var (V 0 rfl) rfl) ev_int rfl)) ?_) n1 (by omega)) ?_))
    · rw [List.length_map]
    · unfold none0 iT
      rw [List.map_replicate]
inductive R_more : List PyData → PyData → Prop where
  | mk (c : List Int) (k : Nat) (m : Int) (hk : k < c.length) (hz : c.length ≤ 100) : R_more [iT c, .int (k : Int), .int m] (iT (more c k m))
theorem more_map (c : List Int) (k : Nat) (m : Int) : (more c k m).map PyData.int = (c.map PyData.int).take k ++ [.int (c.getD k 0 + m)] ++ (c.map PyData.int).drop (k + 1) := by
  unfold more; simp [List.map_take, List.map_drop]
theorem f_with_more (T : Tx mg) (F : FnF K mg "with_more" s_with_more ["counts", "number", "more"]) : PFn P w K mg base 1 "with_more" R_more := by
  refine pfn_of F sc_with_more (fun ds d h => by cases h; rfl) fun X hX hn ds d h => ?_
  have V := fun (j : Nat) {i : Nat} {x : Str} e => (tab_loc tb_with_more hn (i := i) (x := x) j e).1
  cases h with
  | mk c k m hk hz =>
    refine run_one (runS_ret (Ev.to (ev_cat hX (ev_cat hX (ev_slT (l := none) (u := some (k : Int)) hX (ev_var (V 0 rfl) rfl) trivial (ev_var (V 1 rfl) rfl)) (ev_tup (ds := [.int (c.getD k 0 + m)]) (eva_cons (ev_add (ev_ixT hX (ev_var (V 0 rfl) rfl) (ev_var (V 1 rfl) rfl) (iT_get hk)) (ev_var (V 2 rfl) rfl)) eva_nil) (by simp)) ?_) (ev_slT (l := some ((k + 1 : Nat) : Int)) (u := none) hX (ev_var (V 0 rfl) rfl) (ev_suc (ev_var (V 1 rfl) rfl)) trivial) ?_) ?_))
    · rw [cutG_to]; simp; omega
    · rw [cutG_to, cutG_from]; simp; omega
    · rw [cutG_to, cutG_from, iT, more_map]
/-! ### cheapest_sold -/
def en : Nat → List Int → List (Nat × Int)
  | _, [] => []
  | i, x :: r => (i, x) :: en (i + 1) r
theorem en_len : ∀ (i : Nat) (l : List Int), (en i l).length = l.length
  | _, [] => rfl
  | i, _ :: r => by unfold en; rw [List.length_cons, en_len, List.length_cons]
theorem enumD_ints : ∀ (i : Nat) (l : List Int), enumD (i : Int) (l.map PyData.int) = (en i l).map fun q => PyData.tuple [.int (q.1 : Int), .int q.2]
  | _, [] => rfl
  | i, x :: r => by
    have ih := enumD_ints (i + 1) r
    rw [List.map_cons]
    unfold enumD en
    rw [List.map_cons, ← ih]
    rfl
theorem en_cheap : ∀ (i : Nat) (l : List Int), ((en i l).filter (fun q => decide (0 < q.2))).head?.map (·.1) = cheapF i l
  | _, [] => rfl
  | i, x :: r => by
    unfold en cheapF
    rw [List.filter_cons]
    by_cases h : 0 < x
    · rw [if_pos (decide_eq_true h), if_pos h]; rfl
    · rw [if_neg (by rw [decide_eq_false h]; decide), if_neg h]
      exact en_cheap (i + 1) r
def optD : Option Nat → PyData
  | none => .none
  | some j => .int (j : Int)
inductive R_cheap : List PyData → PyData → Prop where
  | mk (c : List Int) (hz : c.length ≤ 100) : R_cheap [iT c] (optD (cheap c))
theorem sh_ints (l : List PyData) (h : ∀ d ∈ l, ∃ i, d = .int i) : SeqAt.shaped (.list l) = true := (sh_lst (n := 0) fun d hd => by obtain ⟨i, rfl⟩ := h d hd; exact sh_int i).shaped (by decide)
theorem f_cheapest_sold (T : Tx mg) (F : FnF K mg "cheapest_sold" s_cheapest_sold ["sold"]) : PFn P w K mg base 1 "cheapest_sold" R_cheap := by
  refine pfn_of F sc_cheapest_sold (fun ds d h => by cases h; rfl) fun X hX hn ds d h => ?_
  have V := fun (j : Nat) {i : Nat} {x : Str} e => (tab_loc tb_cheapest_sold hn (i := i) (x := x) j e).1
  have G := fun (j : Nat) {x : Str} e => tab_glo tb_cheapest_sold hn (x := x) j e
  cases h with
  | mk c hz =>
    refine run_cons (runS_setLcF [("number", 2), ("many", 3)] [(2, "number"), (3, "many")] [] [] (en 0 c) (fun q => .tuple [.int (q.1 : Int), .int q.2]) (fun q => decide (0 < q.2)) (fun q => .int (q.1 : Int)) hX hn (by decide +kernel)
      (by
        rw [← enumD_ints]
        exact evi_enumT hX (G 0 rfl) T.enum (ev_var (V 0 rfl) rfl))
      (fun q hq => ⟨_, fun X' hX' B => ⟨tg_tup hX' (tgs_cons (tg_name hX'.nd (B.o 0 rfl).2 (by simp)) (tgs_cons (tg_name hX'.nd (B.o 1 rfl).2 (by simp)) tgs_nil)) rfl, evts_one (evt_gt (ev_var (B.o 1 rfl).1 rfl) ev_int), fun _ => ev_var (B.o 0 rfl).1 rfl⟩⟩)
      (fun a _ _ => nl_int _) (by rw [en_len]; omega) (hn.at_ (i := 1) rfl) (hn.loc rfl) (by decide +kernel)) ?_
    have hc := en_cheap 0 c
    generalize hL : (en 0 c).filter (fun q => decide (0 < q.2)) = L at hc ⊢
    have hsh : SeqAt.shaped (.list (L.map fun q => PyData.int (q.1 : Int))) = true := sh_ints _ fun d hd => by
      obtain ⟨q, _, rfl⟩ := List.mem_map.mp hd
      exact ⟨_, rfl⟩
    refine run_one (runS_ret ?_)
    unfold cheap
    cases L with
    | nil =>
      rw [← hc]
      exact ev_if (EvT.to (evt_ne hX (ev_var (V 1 rfl) rfl) (ev_lst (ds := []) eva_nil (by decide))) (show _ = false from rfl)) (fun z => nomatch z) fun _ => ev_non
    | cons q r =>
      rw [← hc]
      exact ev_if (EvT.to (evt_ne hX (ev_var (V 1 rfl) rfl) (ev_lst (ds := []) eva_nil (by decide)) hsh) (show _ = true from rfl)) (fun _ => ev_ixL hX (ev_var (V 1 rfl) rfl) ev_int (atI_zero _ _)) fun z => nomatch z
end
end BL
end

section
set_option Elab.async false
set_option linter.all false
set_option maxRecDepth 100000
set_option maxHeartbeats 4000000
/-! BLs: letting, stepping, what hindsight has seen. -/
namespace BL
open PySem PySem.Spec PyProof.Rows L2
section
variable {P : Program} {w : World} {K : PySem.W.Frag} {mg : Str → Option Value} {base : Heap} {k : Nat}
variable {X : Cx} {Γ : Gm} {Φ : MP} {a b c e tg it : Expr} {es : List Expr} {pos p : Pos} {s t : Sv} {ss : List Sv}
theorem EvI.to {ds ds' : List PyData} (h : EvI K X Γ Φ tg it ds) (q : ds = ds') : EvI K X Γ Φ tg it ds' := q ▸ h
/-! ### lets_plain, lets_of -/
inductive R_letsP : List PyData → PyData → Prop where
  | mk (h : Hl) (v : Wd) (l c : List Int) (k : Nat) (hl : l.length = c.length) (hk : k < c.length) (hz : c.length ≤ 100) : R_letsP [h.d, (Rl.plain v l).d, iT c, .int (k : Int)] (.bool (letsP h v l c k))
theorem f_lets_plain (T : Tx mg) (F : FnF K mg "lets_plain" s_lets_plain ["hall", "rule", "sold", "fare"]) : PFn P w K mg base 1 "lets_plain" R_letsP := by
  refine pfn_of F sc_lets_plain (fun ds d h => by cases h; rfl) fun X hX hn ds d h => ?_
  have V := fun (j : Nat) {i : Nat} {x : Str} e => (tab_loc tb_lets_plain hn (i := i) (x := x) j e).1
  have L := fun (j : Nat) {i : Nat} {x : Str} e => (tab_loc tb_lets_plain hn (i := i) (x := x) j e).2
  have G := fun (j : Nat) {x : Str} e => tab_glo tb_lets_plain hn (x := x) j e
  cases h with
  | mk h v l c k hl hk hz =>
    refine run_cons (runS_unp (own := [4, 5]) (ev_var (V 1 rfl) rfl) (tg_tup hX (tgs_cons (tg_name hX.nd (L 4 rfl) (by simp)) (tgs_cons (tg_name hX.nd (L 5 rfl) (by simp)) tgs_nil)) rfl)) ?_
    refine run_guard (evt_eqS (ev_var (V 4 rfl) rfl) (ev_gstr hX (G 0 rfl) T.apart)) (fun z => ?_) fun z => ?_
    · have e : v = .apart := by cases v <;> first | rfl | exact absurd z (by decide)
      subst e
      exact run_one (runS_ret (ev_lt (ev_ixT hX (ev_var (V 2 rfl) rfl) (ev_var (V 3 rfl) rfl) (iT_get hk)) (ev_ixT hX (ev_var (V 5 rfl) rfl) (ev_var (V 3 rfl) rfl) (iT_get (by omega)))))
    refine run_guard (evt_eqS (ev_var (V 4 rfl) rfl) (ev_gstr hX (G 1 rfl) T.kept)) (fun z => ?_) fun z2 => ?_
    · have e : v = .kept := by cases v <;> first | rfl | exact absurd z (by decide)
      subst e
      exact run_one (runS_ret (ev_gt (ev_sub (ev_ixT hX (ev_var (V 0 rfl) rfl) ev_int rfl) (ev_sumT hX (G 2 rfl) T.sum (ev_var (V 2 rfl) rfl))) (ev_ixT hX (ev_var (V 5 rfl) rfl) (ev_var (V 3 rfl) rfl) (iT_get (by omega)))))
    have e : v = .nested := by
      cases v with
      | apart => exact absurd z (by decide)
      | kept => exact absurd z2 (by decide)
      | nested => rfl
    subst e
    refine run_one (runS_ret (Ev.to (ev_allM (l := List.range (c.length - k)) (f := fun i => decide ((c.take (k + i + 1)).sum < l.getD (k + i) 0)) hX (G 3 rfl) T.all
      (ev_lcM [("last", 6)] [(6, "last")] [(5, "limits"), (2, "sold")] ["sum"] (List.range (c.length - k)) (fun i => .int ((k : Int) + (i : Int))) _ hX hn (by decide +kernel)
        (EvI.to (evi_rng2 (m := (k : Int)) (n := (c.length : Int)) hX (G 4 rfl) T.range (ev_var (V 3 rfl) rfl) (Ev.to (ev_lenT hX (G 5 rfl) T.len (ev_var (V 2 rfl) rfl)) (by rw [List.length_map])) (by omega)) (by rw [show ((c.length : Int) - (k : Int)).toNat = c.length - k by omega]; rfl))
        (fun i hi => ⟨_, fun X' hX' B => ⟨tg_name hX'.nd (B.o 0 rfl).2 (by simp), ev_lt
          (ev_sumT hX' (B.g 0 rfl) T.sum (Ev.to (ev_slT (l := none) (u := some ((k + i + 1 : Nat) : Int)) hX' (ev_var (B.v 1 rfl) rfl) trivial (ev_suc (n := k + i) (ev_var (B.o 0 rfl).1 rfl))) (by rw [cutG_to, List.map_take])))
          (ev_ixT hX' (ev_var (B.v 0 rfl) rfl) (ev_var (B.o 0 rfl).1 rfl) (iT_get (n := k + i) (by have := List.mem_range.mp hi; omega)))⟩⟩)
        (fun a _ => nl_bool _) (by rw [List.length_range]; omega))) rfl))
inductive R_lets (n : Nat) : List PyData → PyData → Prop where
  | mk (h : Hl) (r : Rl) (c : List Int) (k : Nat) (hl : r.Ln c.length) (hk : k < c.length) (hz : c.length ≤ 100) (hd : r.deep ≤ n) : R_lets n [h.d, r.d, iT c, .int (k : Int)] (.bool (lets h r c k))
theorem f_lets_of (T : Tx mg) (F : FnF K mg "lets_of" s_lets_of ["hall", "rule", "sold", "fare"]) (Fp : PFn P w K mg base 1 "lets_plain" R_letsP) : ∀ n, PFn P w K mg base (n + 2) "lets_of" (R_lets n) := by
  intro n
  induction n with
  | zero =>
    refine pfn_of F sc_lets_of (fun ds d h => by cases h; rfl) fun X hX hn ds d h => ?_
    have V := fun (j : Nat) {i : Nat} {x : Str} e => (tab_loc tb_lets_of hn (i := i) (x := x) j e).1
    have G := fun (j : Nat) {x : Str} e => tab_glo tb_lets_of hn (x := x) j e
    cases h with
    | mk h r c k hl hk hz hd =>
      cases r with
      | plain v l =>
        refine run_no (EvT.to (evt_eqS (ev_ixT hX (ev_var (V 1 rfl) rfl) ev_int rfl) (ev_gstr hX (G 0 rfl) T.all_)) (show _ = false by cases v <;> decide)) ?_
        refine run_no (EvT.to (evt_eqS (ev_ixT hX (ev_var (V 1 rfl) rfl) ev_int rfl) (ev_gstr hX (G 2 rfl) T.any_)) (show _ = false by cases v <;> decide)) ?_
        exact run_one (runS_ret (ev_if (EvT.to (evt_eqS (ev_ixT hX (ev_var (V 1 rfl) rfl) ev_int rfl) (ev_gstr hX (G 3 rfl) T.oust)) (show _ = false by cases v <;> decide)) (fun z => nomatch z) fun _ =>
          ev_call (ds := [h.d, (Rl.plain v l).d, iT c, .int (k : Int)]) hX Fp (G 4 rfl) (Nat.le_refl _) (eva_cons (ev_var (V 0 rfl) rfl) (eva_cons (ev_var (V 1 rfl) rfl) (eva_cons (ev_var (V 2 rfl) rfl) (eva_cons (ev_var (V 3 rfl) rfl) eva_nil)))) (.mk h v l c k hl hk hz)))
      | all a b => simp [Rl.deep] at hd
      | any a b => simp [Rl.deep] at hd
      | oust a f => simp [Rl.deep] at hd
  | succ n ih =>
    refine pfn_of F sc_lets_of (fun ds d h => by cases h; rfl) fun X hX hn ds d h => ?_
    have V := fun (j : Nat) {i : Nat} {x : Str} e => (tab_loc tb_lets_of hn (i := i) (x := x) j e).1
    have G := fun (j : Nat) {x : Str} e => tab_glo tb_lets_of hn (x := x) j e
    cases h with
    | mk h r c k hl hk hz hd =>
      have rec_ : ∀ (r' : Rl) (j : Int) (ds : List PyData) (p1 p2 p3 p4 p5 p6 p7 p8 : Pos) (i : Nat), r.d = .tuple ds → atI ds j = some r'.d → r'.Ln c.length → r'.deep ≤ n →
          Ev K X (startG n_lets_of [h.d, r.d, iT c, .int (k : Int)]) MP.top (.Call (.Name "lets_of" p1) [.Name "hall" p2, .Subscript (.Name "rule" p3) (.Constant (.int j) i p4) p5, .Name "sold" p6, .Name "fare" p7] [] p8) (.d (.bool (lets h r' c k))) := fun r' j ds p1 p2 p3 p4 p5 p6 p7 p8 i e1 e2 q1 q2 =>
        ev_call (ds := [h.d, r'.d, iT c, .int (k : Int)]) hX ih (G 1 rfl) (Nat.le_refl _) (eva_cons (ev_var (V 0 rfl) rfl) (eva_cons (ev_ixT (ds := ds) hX (ev_var (V 1 rfl) (by rw [← e1]; rfl)) ev_int e2) (eva_cons (ev_var (V 2 rfl) rfl) (eva_cons (ev_var (V 3 rfl) rfl) eva_nil)))) (.mk h r' c k q1 hk hz q2)
      cases r with
      | plain v l =>
        refine run_no (EvT.to (evt_eqS (ev_ixT hX (ev_var (V 1 rfl) rfl) ev_int rfl) (ev_gstr hX (G 0 rfl) T.all_)) (show _ = false by cases v <;> decide)) ?_
        refine run_no (EvT.to (evt_eqS (ev_ixT hX (ev_var (V 1 rfl) rfl) ev_int rfl) (ev_gstr hX (G 2 rfl) T.any_)) (show _ = false by cases v <;> decide)) ?_
        exact run_one (runS_ret (ev_if (EvT.to (evt_eqS (ev_ixT hX (ev_var (V 1 rfl) rfl) ev_int rfl) (ev_gstr hX (G 3 rfl) T.oust)) (show _ = false by cases v <;> decide)) (fun z => nomatch z) fun _ =>
          ev_call (ds := [h.d, (Rl.plain v l).d, iT c, .int (k : Int)]) hX Fp (G 4 rfl) (by omega) (eva_cons (ev_var (V 0 rfl) rfl) (eva_cons (ev_var (V 1 rfl) rfl) (eva_cons (ev_var (V 2 rfl) rfl) (eva_cons (ev_var (V 3 rfl) rfl) eva_nil)))) (.mk h v l c k hl hk hz)))
      | all a b =>
        have hd1 : a.deep ≤ n ∧ b.deep ≤ n := by simp [Rl.deep] at hd; omega
        refine run_guard (EvT.to (evt_eqS (ev_ixT hX (ev_var (V 1 rfl) rfl) ev_int rfl) (ev_gstr hX (G 0 rfl) T.all_)) (show _ = true by decide)) (fun _ => ?_) fun z => nomatch z
        exact run_one (runS_ret (ev_and (rec_ a 1 _ _ _ _ _ _ _ _ _ _ rfl rfl hl.1 hd1.1) fun _ => ev_one (rec_ b 2 _ _ _ _ _ _ _ _ _ _ rfl rfl hl.2 hd1.2)))
      | any a b =>
        have hd1 : a.deep ≤ n ∧ b.deep ≤ n := by simp [Rl.deep] at hd; omega
        refine run_no (EvT.to (evt_eqS (ev_ixT hX (ev_var (V 1 rfl) rfl) ev_int rfl) (ev_gstr hX (G 0 rfl) T.all_)) (show _ = false by decide)) ?_
        refine run_guard (EvT.to (evt_eqS (ev_ixT hX (ev_var (V 1 rfl) rfl) ev_int rfl) (ev_gstr hX (G 2 rfl) T.any_)) (show _ = true by decide)) (fun _ => ?_) fun z => nomatch z
        exact run_one (runS_ret (ev_or (rec_ a 1 _ _ _ _ _ _ _ _ _ _ rfl rfl hl.1 hd1.1) fun _ => ev_one (rec_ b 2 _ _ _ _ _ _ _ _ _ _ rfl rfl hl.2 hd1.2)))
      | oust a f =>
        have hd1 : a.deep ≤ n := by simp [Rl.deep] at hd; omega
        refine run_no (EvT.to (evt_eqS (ev_ixT hX (ev_var (V 1 rfl) rfl) ev_int rfl) (ev_gstr hX (G 0 rfl) T.all_)) (show _ = false by decide)) ?_
        refine run_no (EvT.to (evt_eqS (ev_ixT hX (ev_var (V 1 rfl) rfl) ev_int rfl) (ev_gstr hX (G 2 rfl) T.any_)) (show _ = false by decide)) ?_
        exact run_one (runS_ret (ev_if (EvT.to (evt_eqS (ev_ixT hX (ev_var (V 1 rfl) rfl) ev_int rfl) (ev_gstr hX (G 3 rfl) T.oust)) (show _ = true by decide)) (fun _ => rec_ a 1 _ _ _ _ _ _ _ _ _ _ rfl rfl hl hd1) fun z => nomatch z))
end
end BL
end

section
set_option Elab.async false
set_option linter.all false
set_option maxRecDepth 100000
set_option maxHeartbeats 4000000
/-! BLu: stepping, what hindsight has seen, worth. -/
namespace BL
open PySem PySem.Spec PyProof.Rows L2
theorem cheap_lt {c : List Int} {j : Nat} (h : cheap c = some j) : j < c.length ∧ 0 < c.getD j 0 := by
  obtain ⟨_, h2, h3, _⟩ := cheapF_some h
  exact ⟨by omega, by simpa using h3⟩
theorem sum_pos_cheap {c : List Int} (h : 0 < c.sum) : ∃ j, cheap c = some j := by
  cases q : cheap c with
  | some j => exact ⟨j, rfl⟩
  | none =>
    have h2 := cheapF_none q
    have : ∀ (l : List Int), (∀ m, l.getD m 0 ≤ 0) → l.sum ≤ 0 := fun l => by
      induction l with
      | nil => intro _; simp
      | cons x r ih =>
        intro hl
        have h1 := hl 0
        have h3 := ih fun m => by have := hl (m + 1); simpa using this
        simp only [List.getD_cons_zero] at h1
        rw [List.sum_cons]; omega
    have := this c h2
    omega
section
variable {P : Program} {w : World} {K : PySem.W.Frag} {mg : Str → Option Value} {base : Heap} {k : Nat}
variable {X : Cx} {Γ : Gm} {Φ : MP} {a b c e tg it : Expr} {es : List Expr} {pos p : Pos} {s t : Sv} {ss : List Sv}
theorem EvW.to {x y : Bool} (h : EvW K X Γ Φ e x) (q : x = y) : EvW K X Γ Φ e y := q ▸ h
def stepRest (h : Hl) (r : Rl) (c : List Int) (paid : Int) (k : Nat) : List Int × Int × Wx := match r with
  | .oust _ fee => stepO h fee c paid k
  | _ => (c, paid, .refused)
theorem step_else {h : Hl} {r : Rl} {c : List Int} {paid : Int} {k : Nat} (q : ¬ (c.sum < h.s ∧ lets h r c k = true)) : step h r c paid k = stepRest h r c paid k := by
  unfold step stepRest
  rw [if_neg q]
  first
    | done
    | (cases r <;> rfl)
def stepD (x : List Int × Int × Wx) : PyData := .tuple [iT x.1, .int x.2.1, .str x.2.2.nm]
inductive R_step : List PyData → PyData → Prop where
  | mk (h : Hl) (r : Rl) (c : List Int) (paid : Int) (k : Nat) (ok : h.Ok) (hr : r.Ln c.length) (hc : c.length = h.fs.length) (hk : k < c.length) (hd : r.deep ≤ 3) : R_step [h.d, r.d, iT c, .int paid, .int (k : Int)] (stepD (step h r c paid k))
theorem ev_withmore {j : Nat} {e1 e2 e3 : Expr} {c : List Int} {i : Nat} {m : Int} (hX : In P w K mg base k X) (F : PFn P w K mg base j "with_more" R_more) (g : GlAt X "with_more") (hj : j ≤ k) (h1 : Ev K X Γ Φ e1 (.d (iT c))) (h2 : Ev K X Γ Φ e2 (.d (.int (i : Int)))) (h3 : Ev K X Γ Φ e3 (.d (.int m))) (hi : i < c.length) (hz : c.length ≤ 100)
    (s1 : starEach [e1, e2, e3] X.env = (false, eval e1 X.env) :: starEach [e2, e3] X.env := by rfl) (s2 : starEach [e2, e3] X.env = (false, eval e2 X.env) :: starEach [e3] X.env := by rfl) (s3 : starEach [e3] X.env = (false, eval e3 X.env) :: starEach [] X.env := by rfl)
    (hpl : (backTo pos (starEach [e2, e3] X.env)).any (·.1) = false := by rfl) : Ev K X Γ Φ (.Call (.Name "with_more" p) [e1, e2, e3] [] pos) (.d (iT (more c i m))) :=
  ev_call (ds := [iT c, .int (i : Int), .int m]) hX F g hj (eva_cons h1 (eva_cons h2 (eva_cons h3 eva_nil s3) s2) s1) (R_more.mk c i m hi hz) s1 hpl
theorem f_step_of (T : Tx mg) (F : FnF K mg "step_of" s_step_of ["hall", "rule", "sold", "paid", "fare"]) (Fl : PFn P w K mg base 5 "lets_of" (R_lets 3)) (Fm : PFn P w K mg base 1 "with_more" R_more) (Fc : PFn P w K mg base 1 "cheapest_sold" R_cheap) : PFn P w K mg base 6 "step_of" R_step := by
  refine pfn_of F sc_step_of (fun ds d h => by cases h; rfl) fun X hX hn ds d h => ?_
  have V := fun (j : Nat) {i : Nat} {x : Str} e => (tab_loc tb_step_of hn (i := i) (x := x) j e).1
  have L := fun (j : Nat) {i : Nat} {x : Str} e => (tab_loc tb_step_of hn (i := i) (x := x) j e).2
  have G := fun (j : Nat) {x : Str} e => tab_glo tb_step_of hn (x := x) j e
  cases h with
  | mk h r c paid k ok hr hc hk hd =>
    have n4 := ok.n4
    have hz : c.length ≤ 100 := by omega
    refine run_guard (x := decide (c.sum < h.s) && lets h r c k) (EvT.ofW (evw_and (evt_lt (ev_sumT hX (G 0 rfl) T.sum (ev_var (V 2 rfl) rfl)) (ev_ixT hX (ev_var (V 0 rfl) rfl) ev_int rfl)) fun _ => evw_and1 (evt_val
      (ev_call (ds := [h.d, r.d, iT c, .int (k : Int)]) hX Fl (G 1 rfl) (Nat.le_refl _) (eva_cons (ev_var (V 0 rfl) rfl) (eva_cons (ev_var (V 1 rfl) rfl) (eva_cons (ev_var (V 2 rfl) rfl) (eva_cons (ev_var (V 4 rfl) rfl) eva_nil)))) (.mk h r c k hr hk hz hd))))) (fun z => ?_) fun z => ?_
    · have e : step h r c paid k = (more c k 1, paid, .taken) := by
        unfold step
        obtain ⟨z1, z2⟩ := Bool.and_eq_true_iff.mp z
        rw [if_pos ⟨of_decide_eq_true z1, z2⟩]
      rw [e]
      exact run_one (runS_ret (ev_tup (ds := [iT (more c k 1), .int paid, .str "taken"]) (eva_cons (ev_withmore hX Fm (G 2 rfl) (by decide) (ev_var (V 2 rfl) rfl) (ev_var (V 4 rfl) rfl) ev_int hk hz) (eva_cons (ev_var (V 3 rfl) rfl) (eva_cons (ev_gstr hX (G 3 rfl) T.taken) eva_nil))) (by simp)))
    have e := step_else (h := h) (r := r) (c := c) (paid := paid) (k := k) fun q => by rw [decide_eq_true q.1, q.2] at z; cases z
    rw [e]
    refine run_cons (runS_set hX (L 5 rfl) (ev_call (ds := [iT c]) hX Fc (G 4 rfl) (by decide) (eva_cons (ev_var (V 2 rfl) rfl) eva_nil) (.mk c hz))) ?_
    have refu : ∀ {Γ : Gm} {p1 p2 p3 p4 p5 : Pos} {j : Nat}, Γ[2]? = some (some (.d (iT c))) → Γ[3]? = some (some (.d (.int paid))) → Run K X Γ MP.top [.Return (some (.Tuple [.Name "sold" p1, .Name "paid" p2, .Name "REFUSED" p3] j p4)) p5] (.rt (.d (stepD (c, paid, .refused)))) := fun g2 g3 =>
      run_one (runS_ret (ev_tup (ds := [iT c, .int paid, .str "refused"]) (eva_cons (ev_var (V 2 rfl) g2) (eva_cons (ev_var (V 3 rfl) g3) (eva_cons (ev_gstr hX (G 7 rfl) T.refused) eva_nil))) (by simp)))
    cases r with
    | plain v l => exact run_no (EvT.ofW (EvW.to (evw_and (y := false) (EvT.to (evt_eqS (ev_ixT hX (ev_var (V 1 rfl) rfl) ev_int rfl) (ev_gstr hX (G 5 rfl) T.oust)) (show _ = false by cases v <;> decide)) (fun z => nomatch z)) rfl)) (refu rfl rfl)
    | all a b => exact run_no (EvT.ofW (EvW.to (evw_and (y := false) (EvT.to (evt_eqS (ev_ixT hX (ev_var (V 1 rfl) rfl) ev_int rfl) (ev_gstr hX (G 5 rfl) T.oust)) (show _ = false by decide)) (fun z => nomatch z)) rfl)) (refu rfl rfl)
    | any a b => exact run_no (EvT.ofW (EvW.to (evw_and (y := false) (EvT.to (evt_eqS (ev_ixT hX (ev_var (V 1 rfl) rfl) ev_int rfl) (ev_gstr hX (G 5 rfl) T.oust)) (show _ = false by decide)) (fun z => nomatch z)) rfl)) (refu rfl rfl)
    | oust a fee =>
      show Run _ _ _ _ _ (.rt (.d (stepD (stepO h fee c paid k))))
      unfold stepO
      cases q : cheap c with
      | none =>
        exact run_no (EvT.ofW (EvW.to (evw_and (y := false) (EvT.to (evt_eqS (ev_ixT hX (ev_var (V 1 rfl) rfl) ev_int rfl) (ev_gstr hX (G 5 rfl) T.oust)) (show _ = true by decide)) (fun _ => EvW.to (evw_and (y := false) (evt_notN (c0 := true) (ev_var (V 5 rfl) rfl) rfl) (fun z => nomatch z)) rfl)) rfl)) (refu rfl rfl)
      | some j =>
        obtain ⟨j1, _⟩ := cheap_lt q
        refine run_guard (x := decide (j < k ∧ fee < h.fs.getD k 0 - h.fs.getD j 0)) (EvT.to (EvT.ofW (evw_and (EvT.to (evt_eqS (ev_ixT hX (ev_var (V 1 rfl) rfl) ev_int rfl) (ev_gstr hX (G 5 rfl) T.oust)) (show _ = true by decide)) fun _ => evw_and (evt_notN (c0 := false) (ev_var (V 5 rfl) rfl) rfl) fun _ => evw_and (evt_lt (ev_var (V 5 rfl) rfl) (ev_var (V 4 rfl) rfl)) fun _ => evw_and1
            (evt_gt (ev_sub (ev_ixT hX (ev_ixT hX (ev_var (V 0 rfl) rfl) ev_int rfl) (ev_var (V 4 rfl) rfl) (iT_get (by omega))) (ev_ixT hX (ev_ixT hX (ev_var (V 0 rfl) rfl) ev_int rfl) (ev_var (V 5 rfl) rfl) (iT_get (by omega)))) (ev_ixT hX (ev_var (V 1 rfl) rfl) ev_int rfl)))) (by simp [Bool.decide_and])) (fun z => ?_) fun z => ?_
        · have hq := of_decide_eq_true z
          simp only [if_pos hq]
          exact run_one (runS_ret (ev_tup (ds := [iT (more (more c j (-1)) k 1), .int (paid + fee), .str "ousted"]) (eva_cons (ev_withmore hX Fm (G 2 rfl) (by decide) (ev_withmore hX Fm (G 2 rfl) (by decide) (ev_var (V 2 rfl) rfl) (ev_var (V 5 rfl) rfl) (ev_neg ev_int) j1 hz) (ev_var (V 4 rfl) rfl) ev_int (by rw [more_len j1]; exact hk) (by rw [more_len j1]; exact hz)) (eva_cons (ev_add (ev_var (V 3 rfl) rfl) (ev_ixT hX (ev_var (V 1 rfl) rfl) ev_int rfl)) (eva_cons (ev_gstr hX (G 6 rfl) T.ousted) eva_nil))) (by simp)))
        · have hq := of_decide_eq_false z
          simp only [if_neg hq]
          exact refu rfl rfl
theorem run_out {sts : List Stmt} {Γ1 Γ2 : Gm} (r : Run K X Γ Φ sts (.nx Γ1)) (h : Sub Γ2 Γ1) : Run K X Γ Φ sts (.nx Γ2) := fun σ H D hs hp k => r σ H D hs hp fun σ' H' e q => k σ' H' e (q.sub h)
theorem sub_set {i : Nat} {x : Option Sv} (h : Γ[i]? = some none) : Sub Γ (Γ.set i x) := ⟨by rw [List.length_set], fun j s e => by
  by_cases q : i = j
  · subst q; rw [h] at e; cases e
  · rw [List.getElem?_set_ne q]; exact e⟩
theorem Sub.trans {Γ1 Γ2 Γ3 : Gm} (a : Sub Γ1 Γ2) (b : Sub Γ2 Γ3) : Sub Γ1 Γ3 := ⟨a.1.trans b.1, fun i s e => b.2 i s (a.2 i s e)⟩
theorem Sub.refl (Γ : Gm) : Sub Γ Γ := ⟨rfl, fun _ _ e => e⟩
/-! ### seen_with, seen_of, seen -/
inductive R_seenW : List PyData → PyData → Prop where
  | mk (h : Hl) (c : List Int) (k : Nat) (ok : h.Ok) (hc : c.length = h.fs.length) (hk : k < c.length) : R_seenW [h.d, iT c, .int (k : Int)] (iT (seenW h c k))
theorem f_seen_with (T : Tx mg) (F : FnF K mg "seen_with" s_seen_with ["hall", "seen", "fare"]) (Fm : PFn P w K mg base 1 "with_more" R_more) (Fc : PFn P w K mg base 1 "cheapest_sold" R_cheap) : PFn P w K mg base 2 "seen_with" R_seenW := by
  refine pfn_of F sc_seen_with (fun ds d h => by cases h; rfl) fun X hX hn ds d h => ?_
  have V := fun (j : Nat) {i : Nat} {x : Str} e => (tab_loc tb_seen_with hn (i := i) (x := x) j e).1
  have L := fun (j : Nat) {i : Nat} {x : Str} e => (tab_loc tb_seen_with hn (i := i) (x := x) j e).2
  have G := fun (j : Nat) {x : Str} e => tab_glo tb_seen_with hn (x := x) j e
  cases h with
  | mk h c k ok hc hk =>
    have n4 := ok.n4
    have s1 := ok.s1
    have hl : (more c k 1).length = c.length := more_len hk
    refine run_cons (runS_set hX (L 3 rfl) (ev_withmore hX Fm (G 0 rfl) (by decide) (ev_var (V 1 rfl) rfl) (ev_var (V 2 rfl) rfl) ev_int hk (by omega))) ?_
    unfold seenW
    by_cases hs : (more c k 1).sum ≤ h.s
    · rw [if_pos hs]
      exact run_one (runS_ret (ev_if (EvT.to (evt_le (ev_sumT hX (G 1 rfl) T.sum (ev_var (V 3 rfl) rfl)) (ev_ixT hX (ev_var (V 0 rfl) rfl) ev_int rfl)) (decide_eq_true hs)) (fun _ => ev_var (V 3 rfl) rfl) fun z => nomatch z))
    · rw [if_neg hs]
      obtain ⟨j, q⟩ := sum_pos_cheap (c := more c k 1) (by omega)
      rw [q]
      obtain ⟨j1, _⟩ := cheap_lt q
      exact run_one (runS_ret (ev_if (EvT.to (evt_le (ev_sumT hX (G 1 rfl) T.sum (ev_var (V 3 rfl) rfl)) (ev_ixT hX (ev_var (V 0 rfl) rfl) ev_int rfl)) (decide_eq_false hs)) (fun z => nomatch z) fun _ =>
        ev_withmore hX Fm (G 0 rfl) (by decide) (ev_var (V 3 rfl) rfl) (Ev.to (ev_call (ds := [iT (more c k 1)]) hX Fc (G 2 rfl) (by decide) (eva_cons (ev_var (V 3 rfl) rfl) eva_nil) (.mk _ (by omega))) (by rw [q]; rfl)) (ev_neg ev_int) j1 (by omega)))
/-- fares of the hall -/
def RowOk (h : Hl) (row : List Nat) : Prop := row.length ≤ 400 ∧ ∀ k ∈ row, k < h.fs.length
def rowD (row : List Nat) : PyData := .tuple (row.map fun (k : Nat) => .int (k : Int))
inductive R_needc : List PyData → PyData → Prop where
  | mk (h : Hl) (row : List Nat) (ok : h.Ok) (hr : RowOk h row) : R_needc [h.d, rowD row] (rowD row)
theorem f_need_calls (T : Tx mg) (F : FnF K mg "need_calls" s_need_calls ["hall", "row"]) (Fw : PFn P w K mg base 1 "is_whole" R_whole) : PFn P w K mg base 2 "need_calls" R_needc := by
  refine pfn_of F sc_need_calls (fun ds d h => by cases h; rfl) fun X hX hn ds d h => ?_
  have V := fun (j : Nat) {i : Nat} {x : Str} e => (tab_loc tb_need_calls hn (i := i) (x := x) j e).1
  have L := fun (j : Nat) {i : Nat} {x : Str} e => (tab_loc tb_need_calls hn (i := i) (x := x) j e).2
  have G := fun (j : Nat) {x : Str} e => tab_glo tb_need_calls hn (x := x) j e
  cases h with
  | mk h row ok hr =>
    obtain ⟨r1, r2⟩ := hr
    refine run_no (EvT.to (EvT.ofW (evw_or (evt_not (evt_val (ev_isi2 hX (G 0 rfl) T.isi (G 1 rfl) T.list_ rfl (G 2 rfl) T.tuple_ rfl (ev_var (V 1 rfl) rfl) (kitAny_cons (b := false) (r := true) (kit_ty rfl) (fun _ => kitAny_cons (b := true) (kit_ty rfl) (fun z => nomatch z) (fun _ => rfl)) (fun z => nomatch z))))) fun _ => evw_or1 (evt_gt (ev_lenT hX (G 3 rfl) T.len (ev_var (V 1 rfl) rfl)) (ev_gint hX (G 4 rfl) T.calls)))) ?_) ?_
    · rw [List.length_map, decide_eq_false (by omega)]; rfl
    refine run_cons (runS_for (own := [2, 3]) hX (evi_enumT hX (G 6 rfl) T.enum (ev_var (V 1 rfl) rfl)) (fun _ => startG n_need_calls [h.d, rowD row]) ⟨rfl, fun _ _ e => e⟩ (fun i d hd => ?_) hn.pas) (run_one (runS_ret (ev_tupleT hX (G 2 rfl) T.tuple_ rfl (ev_var (V 1 rfl) rfl))))
    obtain ⟨k, hk, rfl⟩ : ∃ k, k ∈ row ∧ d = .tuple [.int (0 + (i : Int)), .int (k : Int)] := by
      have hl : i < row.length := by
        rcases Nat.lt_or_ge i row.length with z | z
        · exact z
        · rw [List.getElem?_eq_none (by rw [enumD_len, List.length_map]; exact z)] at hd; cases hd
      rw [enumD_get (x := .int (row[i] : Int)) (by rw [List.getElem?_map, List.getElem?_eq_getElem hl]; rfl)] at hd
      exact ⟨row[i], List.getElem_mem hl, (Option.some.inj hd).symm⟩
    refine ⟨_, tg_tup hX (tgs_cons (tg_name hX.nd (L 2 rfl) (by simp)) (tgs_cons (tg_name hX.nd (L 3 rfl) (by simp)) tgs_nil)) rfl, run_out (run_no (EvT.to (evt_not (evt_val (ev_whole hX Fw (G 7 rfl) (by decide) (ev_var (V 3 rfl) rfl) ev_int (ev_sub (ev_lenT hX (G 3 rfl) T.len (ev_ixT hX (ev_var (V 0 rfl) rfl) ev_int rfl)) ev_int)))) ?_) run_nil) ((sub_set (i := 2) rfl).trans (sub_set (i := 3) rfl))⟩
    · have := r2 k hk
      rw [List.length_map]
      simp; omega
end
end BL
end

section
set_option Elab.async false
set_option linter.all false
set_option maxRecDepth 100000
set_option maxHeartbeats 4000000
/-! BLv: seen, worth, hindsight; the law's own plain helpers. -/
namespace BL
open PySem PySem.Spec PyProof.Rows L2
theorem seenW_len {h : Hl} {c : List Int} {k : Nat} (hk : k < c.length) : (seenW h c k).length = c.length := by
  unfold seenW
  have e := more_len (m := 1) hk
  split
  · exact e
  · cases q : cheap (more c k 1) with
    | none => exact e
    | some j =>
      obtain ⟨j1, _⟩ := cheap_lt q
      show (more (more c k 1) j (-1)).length = _
      rw [more_len j1]; exact e
theorem seenF_len {h : Hl} : ∀ {row : List Nat} {c : List Int}, (∀ k ∈ row, k < c.length) → (seenF h c row).length = c.length
  | [], _, _ => rfl
  | k :: r, c, q => by
    have hk := q k List.mem_cons_self
    show (seenF h (seenW h c k) r).length = _
    rw [seenF_len fun j hj => by rw [seenW_len hk]; exact q j (List.mem_cons_of_mem _ hj), seenW_len hk]
theorem none0_len (h : Hl) : (none0 h).length = h.fs.length := by unfold none0; simp
theorem seenF_snoc (h : Hl) (c : List Int) (row : List Nat) (k : Nat) : seenF h c (row ++ [k]) = seenW h (seenF h c row) k := by unfold seenF; rw [List.foldl_append]; rfl
section
variable {P : Program} {w : World} {K : PySem.W.Frag} {mg : Str → Option Value} {base : Heap} {k : Nat}
variable {X : Cx} {Γ : Gm} {Φ : MP} {a b c e tg it : Expr} {es : List Expr} {pos p : Pos} {s t : Sv} {ss : List Sv}
inductive R_seenof : List PyData → PyData → Prop where
  | mk (h : Hl) (row : List Nat) (ok : h.Ok) (hr : RowOk h row) : R_seenof [h.d, rowD row] (iT (seenF h (none0 h) row))
theorem f_seen_of (T : Tx mg) (F : FnF K mg "seen_of" s_seen_of ["hall", "row"]) (Fn : PFn P w K mg base 1 "none_of" R_none) (Fs : PFn P w K mg base 2 "seen_with" R_seenW) : PFn P w K mg base 3 "seen_of" R_seenof := by
  refine pfn_of F sc_seen_of (fun ds d h => by cases h; rfl) fun X hX hn ds d h => ?_
  have V := fun (j : Nat) {i : Nat} {x : Str} e => (tab_loc tb_seen_of hn (i := i) (x := x) j e).1
  have L := fun (j : Nat) {i : Nat} {x : Str} e => (tab_loc tb_seen_of hn (i := i) (x := x) j e).2
  have G := fun (j : Nat) {x : Str} e => tab_glo tb_seen_of hn (x := x) j e
  cases h with
  | mk h row ok hr =>
    obtain ⟨r1, r2⟩ := hr
    refine run_cons (runS_set hX (L 2 rfl) (ev_call (ds := [h.d]) hX Fn (G 0 rfl) (by decide) (eva_cons (ev_var (V 0 rfl) rfl) eva_nil) (.mk h ok))) ?_
    refine run_cons (runS_for (own := [3]) hX (evi_tup hX (ev_var (V 1 rfl) rfl)) (fun i => (startG n_seen_of [h.d, rowD row]).set 2 (some (.d (iT (seenF h (none0 h) (row.take i)))))) (by rw [List.take_zero]; exact .refl _) (fun i d hd => ?_) hn.pas) ?_
    · rw [List.getElem?_map] at hd
      cases hk : row[i]? with
      | none => rw [hk] at hd; cases hd
      | some k =>
        rw [hk] at hd
        cases hd
        have hlt := r2 k (List.mem_of_getElem? hk)
        have hl : (seenF h (none0 h) (row.take i)).length = h.fs.length := by rw [seenF_len fun j hj => by rw [none0_len]; exact r2 j (List.mem_of_mem_take hj), none0_len]
        refine ⟨_, tg_name hX.nd (L 3 rfl) (by simp), run_out (run_one (runS_set hX (L 2 rfl) (ev_call (ds := [h.d, iT (seenF h (none0 h) (row.take i)), .int (k : Int)]) hX Fs (G 1 rfl) (by decide) (eva_cons (ev_var (V 0 rfl) rfl) (eva_cons (ev_var (V 2 rfl) rfl) (eva_cons (ev_var (V 3 rfl) rfl) eva_nil))) (.mk h _ k ok hl (by omega))))) ?_⟩
        rw [take_snoc hk, seenF_snoc]
        exact sub_set (Γ := [_, _, _, none]) (i := 3) rfl
    · rw [List.length_map, List.take_length]
      exact run_one (runS_ret (ev_var (V 2 rfl) rfl))
inductive R_seen : List PyData → PyData → Prop where
  | mk (h : Hl) (row : List Nat) (ok : h.Ok) (hr : RowOk h row) : R_seen [h.d, rowD row] (iT (seenF h (none0 h) row))
theorem f_seen (T : Tx mg) (F : FnF K mg "seen" s_seen ["hall", "row"]) (Fh : PFn P w K mg base 2 "need_hall" R_hall) (Fc : PFn P w K mg base 2 "need_calls" R_needc) (Fs : PFn P w K mg base 3 "seen_of" R_seenof) : PFn P w K mg base 4 "seen" R_seen := by
  refine pfn_of F sc_seen (fun ds d h => by cases h; rfl) fun X hX hn ds d h => ?_
  have V := fun (j : Nat) {i : Nat} {x : Str} e => (tab_loc tb_seen hn (i := i) (x := x) j e).1
  have G := fun (j : Nat) {x : Str} e => tab_glo tb_seen hn (x := x) j e
  cases h with
  | mk h row ok hr =>
    refine run_cons (runS_expr (ev_call (ds := [h.d]) hX Fh (G 0 rfl) (by decide) (eva_cons (ev_var (V 0 rfl) rfl) eva_nil) (.mk h ok))) ?_
    exact run_one (runS_ret (ev_call (ds := [h.d, rowD row]) hX Fs (G 1 rfl) (by decide) (eva_cons (ev_var (V 0 rfl) rfl) (eva_cons (ev_call (ds := [h.d, rowD row]) hX Fc (G 2 rfl) (by decide) (eva_cons (ev_var (V 0 rfl) rfl) (eva_cons (ev_var (V 1 rfl) rfl) eva_nil)) (.mk h row ok hr)) eva_nil)) (.mk h row ok hr)))
/-- ints of some size -/
def Small (c : List Int) : Prop := ∀ x ∈ c, -(2 ^ 64) < x ∧ x < 2 ^ 64
inductive R_worth : List PyData → PyData → Prop where
  | mk (h : Hl) (c : List Int) (ok : h.Ok) (hc : c.length = h.fs.length) : R_worth [h.d, iT c] (.int (worth h c))
theorem zip_worth (h : Hl) (c : List Int) : ((List.zip h.fs c).map fun q => q.1 * q.2).sum = worth h c := by
  unfold worth List.zip
  rw [List.map_zipWith]
theorem f_worth_of (T : Tx mg) (F : FnF K mg "worth_of" s_worth_of ["hall", "counts"]) : PFn P w K mg base 1 "worth_of" R_worth := by
  refine pfn_of F sc_worth_of (fun ds d h => by cases h; rfl) fun X hX hn ds d h => ?_
  have V := fun (j : Nat) {i : Nat} {x : Str} e => (tab_loc tb_worth_of hn (i := i) (x := x) j e).1
  have G := fun (j : Nat) {x : Str} e => tab_glo tb_worth_of hn (x := x) j e
  cases h with
  | mk h c ok hc =>
    have n4 := ok.n4
    have fb := ok.f
    refine run_one (runS_ret (Ev.to (ev_sumL (ns := (List.zip h.fs c).map fun q => q.1 * q.2) hX (G 0 rfl) T.sum rfl
      (Ev.to (ev_lcM [("fare", 2), ("many", 3)] [(2, "fare"), (3, "many")] [] [] (List.zip h.fs c) (fun q => .tuple [.int q.1, .int q.2]) (fun q => .int (q.1 * q.2)) hX hn (by decide +kernel)
        (EvI.to (evi_zipT hX (G 1 rfl) T.zip (ev_ixT hX (ev_var (V 0 rfl) rfl) ev_int rfl) (ev_var (V 1 rfl) rfl)) (zipD_map _ _))
        (fun q hq => ⟨_, fun X' hX' B => ⟨tg_tup hX' (tgs_cons (tg_name hX'.nd (B.o 0 rfl).2 (by simp)) (tgs_cons (tg_name hX'.nd (B.o 1 rfl).2 (by simp)) tgs_nil)) rfl, ev_mul (ev_var (B.o 0 rfl).1 rfl) (ev_var (B.o 1 rfl).1 rfl) (.inl (by have := fb q.1 (List.of_mem_zip hq).1; omega))⟩⟩)
        (fun a _ => nl_int _) (by rw [List.length_zip]; omega)) (by rw [List.map_map]; rfl))) (by rw [zip_worth])))
inductive R_hind : List PyData → PyData → Prop where
  | mk (h : Hl) (row : List Nat) (ok : h.Ok) (hr : RowOk h row) : R_hind [h.d, rowD row] (.int (worth h (seenF h (none0 h) row)))
theorem f_hindsight (T : Tx mg) (F : FnF K mg "hindsight" s_hindsight ["hall", "row"]) (Fw : PFn P w K mg base 1 "worth_of" R_worth) (Fs : PFn P w K mg base 4 "seen" R_seen) : PFn P w K mg base 5 "hindsight" R_hind := by
  refine pfn_of F sc_hindsight (fun ds d h => by cases h; rfl) fun X hX hn ds d h => ?_
  have V := fun (j : Nat) {i : Nat} {x : Str} e => (tab_loc tb_hindsight hn (i := i) (x := x) j e).1
  have G := fun (j : Nat) {x : Str} e => tab_glo tb_hindsight hn (x := x) j e
  cases h with
  | mk h row ok hr =>
    exact run_one (runS_ret (ev_call (ds := [h.d, iT (seenF h (none0 h) row)]) hX Fw (G 0 rfl) (by decide) (eva_cons (ev_var (V 0 rfl) rfl) (eva_cons (ev_call (ds := [h.d, rowD row]) hX Fs (G 1 rfl) (by decide) (eva_cons (ev_var (V 0 rfl) rfl) (eva_cons (ev_var (V 1 rfl) rfl) eva_nil)) (.mk h row ok hr)) eva_nil)) (.mk h _ ok (by rw [seenF_len fun j hj => by rw [none0_len]; exact hr.2 j hj, none0_len]))))
/-! ### the law's own -/
theorem f_l_more (T : Tx mg) (F : FnF K mg "_law_more" s_l_more ["_law_counts", "_law_k", "_law_more_here"]) : PFn P w K mg base 1 "_law_more" R_more := by
  refine pfn_of F sc_l_more (fun ds d h => by cases h; rfl) fun X hX hn ds d h => ?_
  have V := fun (j : Nat) {i : Nat} {x : Str} e => (tab_loc tb_l_more hn (i := i) (x := x) j e).1
  cases h with
  | mk c k m hk hz =>
    refine run_one (runS_ret (Ev.to (ev_cat hX (ev_cat hX (ev_slT (l := none) (u := some (k : Int)) hX (ev_var (V 0 rfl) rfl) trivial (ev_var (V 1 rfl) rfl)) (ev_tup (ds := [.int (c.getD k 0 + m)]) (eva_cons (ev_add (ev_ixT hX (ev_var (V 0 rfl) rfl) (ev_var (V 1 rfl) rfl) (iT_get hk)) (ev_var (V 2 rfl) rfl)) eva_nil) (by simp)) ?_) (ev_slT (l := some ((k + 1 : Nat) : Int)) (u := none) hX (ev_var (V 0 rfl) rfl) (ev_suc (ev_var (V 1 rfl) rfl)) trivial) ?_) ?_))
    · rw [cutG_to]; simp; omega
    · rw [cutG_to, cutG_from]; simp; omega
    · rw [cutG_to, cutG_from, iT, more_map]
inductive R_llets (n : Nat) : List PyData → PyData → Prop where
  | mk (h : Hl) (r : Rl) (c : List Int) (k : Nat) (hl : r.Ln c.length) (hk : k < c.length) (hz : c.length ≤ 100) (hd : r.deep ≤ n) : R_llets n [.int h.s, r.d, iT c, .int (k : Int)] (.bool (lets h r c k))
theorem bad_first {n : Nat} {f : Nat → Bool} (h : (List.range n).all f = false) : ∃ j, j < n ∧ f j = false ∧ ∀ i, i < j → f i = true := by
  induction n with
  | zero => simp at h
  | succ n ih =>
    rw [List.range_succ, List.all_append] at h
    cases q : (List.range n).all f with
    | false =>
      obtain ⟨j, h1, h2, h3⟩ := ih q
      exact ⟨j, by omega, h2, h3⟩
    | true =>
      rw [q] at h
      refine ⟨n, by omega, by simpa using h, fun i hi => List.all_eq_true.mp q i (List.mem_range.mpr hi)⟩
theorem f_l_lets (T : Tx mg) (F : FnF K mg "_law_lets" s_l_lets ["_law_seats_so", "_law_some", "_law_sold_so", "_law_k"]) : ∀ n, PFn P w K mg base (n + 1) "_law_lets" (R_llets n) := by
  intro n
  have leaf : ∀ (m : Nat) (X : Cx), In P w K mg base m X → Nm n_l_lets (defScope s_l_lets) X → ∀ (h : Hl) (v : Wd) (l c : List Int) (k : Nat), l.length = c.length → k < c.length → c.length ≤ 100 →
      Run K X (startG n_l_lets [.int h.s, (Rl.plain v l).d, iT c, .int (k : Int)]) MP.top (defBody s_l_lets) (.rt (.d (.bool (letsP h v l c k)))) := fun m X hX hn h v l c k hl hk hz => by
    have V := fun (j : Nat) {i : Nat} {x : Str} e => (tab_loc tb_l_lets hn (i := i) (x := x) j e).1
    have L := fun (j : Nat) {i : Nat} {x : Str} e => (tab_loc tb_l_lets hn (i := i) (x := x) j e).2
    have G := fun (j : Nat) {x : Str} e => tab_glo tb_l_lets hn (x := x) j e
    refine run_no (EvT.to (evt_eqS (ev_ixT hX (ev_var (V 1 rfl) rfl) ev_int rfl) ev_str) (show _ = false by cases v <;> decide)) ?_
    refine run_no (EvT.to (evt_eqS (ev_ixT hX (ev_var (V 1 rfl) rfl) ev_int rfl) ev_str) (show _ = false by cases v <;> decide)) ?_
    refine run_no (EvT.to (evt_eqS (ev_ixT hX (ev_var (V 1 rfl) rfl) ev_int rfl) ev_str) (show _ = false by cases v <;> decide)) ?_
    refine run_guard (evt_eqS (ev_ixT hX (ev_var (V 1 rfl) rfl) ev_int rfl) ev_str) (fun z => ?_) fun z => ?_
    · have e : v = .apart := by cases v <;> first | rfl | exact absurd z (by decide)
      subst e
      exact run_one (runS_ret (ev_lt (ev_ixT hX (ev_var (V 2 rfl) rfl) (ev_var (V 3 rfl) rfl) (iT_get hk)) (ev_ixT hX (ev_ixT hX (ev_var (V 1 rfl) rfl) ev_int rfl) (ev_var (V 3 rfl) rfl) (iT_get (by omega)))))
    refine run_guard (evt_eqS (ev_ixT hX (ev_var (V 1 rfl) rfl) ev_int rfl) ev_str) (fun z => ?_) fun z2 => ?_
    · have e : v = .kept := by cases v <;> first | rfl | exact absurd z (by decide)
      subst e
      exact run_one (runS_ret (ev_gt (ev_sub (ev_var (V 0 rfl) rfl) (ev_sumT hX (G 1 rfl) T.sum (ev_var (V 2 rfl) rfl))) (ev_ixT hX (ev_ixT hX (ev_var (V 1 rfl) rfl) ev_int rfl) (ev_var (V 3 rfl) rfl) (iT_get (by omega)))))
    have e : v = .nested := by
      cases v with
      | apart => exact absurd z (by decide)
      | kept => exact absurd z2 (by decide)
      | nested => rfl
    subst e
    have src : ∀ {tg : Expr} {p1 p2 p3 p4 p5 p6 : Pos}, EvI K X (startG n_l_lets [.int h.s, (Rl.plain .nested l).d, iT c, .int (k : Int)]) MP.top tg (.Call (.Name "range" p1) [.Name "_law_k" p2, .Call (.Name "len" p3) [.Name "_law_sold_so" p4] [] p5] [] p6) (rngD (k : Int) (c.length - k)) := fun {tg p1 p2 p3 p4 p5 p6} =>
      EvI.to (evi_rng2 (m := (k : Int)) (n := (c.length : Int)) hX (G 2 rfl) T.range (ev_var (V 3 rfl) rfl) (Ev.to (ev_lenT hX (G 3 rfl) T.len (ev_var (V 2 rfl) rfl)) (by rw [List.length_map])) (by omega)) (by rw [show ((c.length : Int) - (k : Int)).toNat = c.length - k by omega])
    have test : ∀ {p1 p2 p3 p4 p5 p6 p7 p8 p9 p10 p11 p12 p13 p14 : Pos} {j1 j2 : Nat} (i : Nat), i < c.length - k → EvT K X ((startG n_l_lets [.int h.s, (Rl.plain .nested l).d, iT c, .int (k : Int)]).set 4 (some (.d (.int ((k : Int) + (i : Int)))))) MP.top
        (.Compare (.Call (.Name "sum" p1) [.Subscript (.Name "_law_sold_so" p2) (.Slice none (some (.BinOp (.Name "_law_j" p3) .Add (.Constant (.int 1) j1 p4) p5)) none p6) p7] [] p8) [.GtE] [.Subscript (.Subscript (.Name "_law_some" p9) (.Constant (.int 1) j2 p10) p11) (.Name "_law_j" p12) p13] p14)
        (!decide ((c.take (k + i + 1)).sum < l.getD (k + i) 0)) := fun i hi =>
      EvT.to (evt_ge (ev_sumT (ns := c.take (k + i + 1)) hX (G 1 rfl) T.sum (Ev.to (ev_slT (l := none) (u := some ((k + i + 1 : Nat) : Int)) hX (ev_var (V 2 rfl) rfl) trivial (ev_suc (n := k + i) (ev_var (V 4 rfl) rfl))) (by rw [cutG_to, List.map_take]))) (ev_ixT hX (ev_ixT hX (ev_var (V 1 rfl) rfl) ev_int rfl) (ev_var (V 4 rfl) rfl) (iT_get (n := k + i) (by omega))))
        (by by_cases q : (c.take (k + i + 1)).sum < l.getD (k + i) 0
            · rw [decide_eq_true q, decide_eq_false (by omega)]; rfl
            · rw [decide_eq_false q, decide_eq_true (by omega)]; rfl)
    have at_ : ∀ {i : Nat} {d : PyData}, (rngD (k : Int) (c.length - k))[i]? = some d → i < c.length - k ∧ d = .int ((k : Int) + (i : Int)) := fun {i d} hd => by
      have hi : i < c.length - k := by
        rcases Nat.lt_or_ge i (c.length - k) with z | z
        · exact z
        · rw [List.getElem?_eq_none (by rw [rngD_len]; exact z)] at hd; cases hd
      rw [rngD_get hi] at hd
      exact ⟨hi, (Option.some.inj hd).symm⟩
    cases q : letsP h .nested l c k with
    | true =>
      have qq : ((List.range (c.length - k)).all fun i => decide ((c.take (k + i + 1)).sum < l.getD (k + i) 0)) = true := q
      refine run_cons (runS_for (own := [4]) hX src (fun _ => startG n_l_lets [.int h.s, (Rl.plain .nested l).d, iT c, .int (k : Int)]) (.refl _) (fun i d hd => ?_) hn.pas) (run_one (runS_ret ev_bl))
      obtain ⟨hi, rfl⟩ := at_ hd
      refine ⟨_, tg_name hX.nd (L 4 rfl) (by simp), run_out (run_no (EvT.to (test i hi) ?_) run_nil) (sub_set (i := 4) rfl)⟩
      rw [List.all_eq_true.mp qq i (List.mem_range.mpr hi)]; rfl
    | false =>
      have qq : ((List.range (c.length - k)).all fun i => decide ((c.take (k + i + 1)).sum < l.getD (k + i) 0)) = false := q
      obtain ⟨j, j1, j2, j3⟩ := bad_first qq
      refine run_end (runS_forR (own := [4]) (j := j) hX src (fun _ => startG n_l_lets [.int h.s, (Rl.plain .nested l).d, iT c, .int (k : Int)]) (.refl _) (by rw [rngD_len]; exact j1) (fun i d hd hij => ?_) (fun d hd => ?_) hn.pas)
      · obtain ⟨hi, rfl⟩ := at_ hd
        refine ⟨_, tg_name hX.nd (L 4 rfl) (by simp), run_out (run_no (EvT.to (test i hi) ?_) run_nil) (sub_set (i := 4) rfl)⟩
        rw [j3 i hij]; rfl
      · obtain ⟨hi, rfl⟩ := at_ hd
        refine ⟨_, tg_name hX.nd (L 4 rfl) (by simp), run_guard (x := true) (EvT.to (test j hi) (by rw [j2]; rfl)) (fun _ => run_one (runS_ret ev_bl)) fun z => nomatch z⟩
  induction n with
  | zero =>
    refine pfn_of F sc_l_lets (fun ds d h => by cases h; rfl) fun X hX hn ds d h => ?_
    cases h with
    | mk h r c k hl hk hz hd =>
      cases r with
      | plain v l => exact leaf _ X hX hn h v l c k hl hk hz
      | all a b => simp [Rl.deep] at hd
      | any a b => simp [Rl.deep] at hd
      | oust a f => simp [Rl.deep] at hd
  | succ n ih =>
    refine pfn_of F sc_l_lets (fun ds d h => by cases h; rfl) fun X hX hn ds d h => ?_
    have V := fun (j : Nat) {i : Nat} {x : Str} e => (tab_loc tb_l_lets hn (i := i) (x := x) j e).1
    have G := fun (j : Nat) {x : Str} e => tab_glo tb_l_lets hn (x := x) j e
    cases h with
    | mk h r c k hl hk hz hd =>
      have rec_ : ∀ (r' : Rl) (j : Int) (ds : List PyData) (p1 p2 p3 p4 p5 p6 p7 p8 : Pos) (i : Nat), r.d = .tuple ds → atI ds j = some r'.d → r'.Ln c.length → r'.deep ≤ n →
          Ev K X (startG n_l_lets [.int h.s, r.d, iT c, .int (k : Int)]) MP.top (.Call (.Name "_law_lets" p1) [.Name "_law_seats_so" p2, .Subscript (.Name "_law_some" p3) (.Constant (.int j) i p4) p5, .Name "_law_sold_so" p6, .Name "_law_k" p7] [] p8) (.d (.bool (lets h r' c k))) := fun r' j ds p1 p2 p3 p4 p5 p6 p7 p8 i e1 e2 q1 q2 =>
        ev_call (ds := [.int h.s, r'.d, iT c, .int (k : Int)]) hX ih (G 0 rfl) (Nat.le_refl _) (eva_cons (ev_var (V 0 rfl) rfl) (eva_cons (ev_ixT (ds := ds) hX (ev_var (V 1 rfl) (by rw [← e1]; rfl)) ev_int e2) (eva_cons (ev_var (V 2 rfl) rfl) (eva_cons (ev_var (V 3 rfl) rfl) eva_nil)))) (.mk h r' c k q1 hk hz q2)
      cases r with
      | plain v l => exact leaf _ X hX hn h v l c k hl hk hz
      | all a b =>
        have hd1 : a.deep ≤ n ∧ b.deep ≤ n := by simp [Rl.deep] at hd; omega
        refine run_guard (EvT.to (evt_eqS (ev_ixT hX (ev_var (V 1 rfl) rfl) ev_int rfl) ev_str) (show _ = true by decide)) (fun _ => ?_) fun z => nomatch z
        exact run_one (runS_ret (ev_and (rec_ a 1 _ _ _ _ _ _ _ _ _ _ rfl rfl hl.1 hd1.1) fun _ => ev_one (rec_ b 2 _ _ _ _ _ _ _ _ _ _ rfl rfl hl.2 hd1.2)))
      | any a b =>
        have hd1 : a.deep ≤ n ∧ b.deep ≤ n := by simp [Rl.deep] at hd; omega
        refine run_no (EvT.to (evt_eqS (ev_ixT hX (ev_var (V 1 rfl) rfl) ev_int rfl) ev_str) (show _ = false by decide)) ?_
        refine run_guard (EvT.to (evt_eqS (ev_ixT hX (ev_var (V 1 rfl) rfl) ev_int rfl) ev_str) (show _ = true by decide)) (fun _ => ?_) fun z => nomatch z
        exact run_one (runS_ret (ev_or (rec_ a 1 _ _ _ _ _ _ _ _ _ _ rfl rfl hl.1 hd1.1) fun _ => ev_one (rec_ b 2 _ _ _ _ _ _ _ _ _ _ rfl rfl hl.2 hd1.2)))
      | oust a f =>
        have hd1 : a.deep ≤ n := by simp [Rl.deep] at hd; omega
        refine run_no (EvT.to (evt_eqS (ev_ixT hX (ev_var (V 1 rfl) rfl) ev_int rfl) ev_str) (show _ = false by decide)) ?_
        refine run_no (EvT.to (evt_eqS (ev_ixT hX (ev_var (V 1 rfl) rfl) ev_int rfl) ev_str) (show _ = false by decide)) ?_
        refine run_guard (EvT.to (evt_eqS (ev_ixT hX (ev_var (V 1 rfl) rfl) ev_int rfl) ev_str) (show _ = true by decide)) (fun _ => ?_) fun z => nomatch z
        exact run_one (runS_ret (rec_ a 1 _ _ _ _ _ _ _ _ _ _ rfl rfl hl hd1))
end
end BL
end

section
set_option Elab.async false
set_option linter.all false
set_option maxRecDepth 100000
set_option maxHeartbeats 4000000
/-! BLw: the law's dealing, worth, best, mixing. -/
namespace BL
open PySem PySem.Spec PyProof.Rows L2
/-- the first place below k with something sold -/
def cheapB (c : List Int) (k : Nat) : Option Nat := match cheap c with
  | some j => if j < k then some j else none
  | none => none
theorem filter_head {f : Nat → Bool} {j : Nat} : ∀ (n : Nat), ((List.range n).filter f).head? = some j → j < n ∧ f j = true ∧ ∀ i, i < j → f i = false := by
  intro n
  induction n with
  | zero => intro h; simp at h
  | succ m ih =>
    intro h
    rw [List.range_succ, List.filter_append] at h
    cases q : ((List.range m).filter f).head? with
    | some i =>
      rw [List.head?_append, q] at h
      cases h
      obtain ⟨a, b, c⟩ := ih q
      exact ⟨by omega, b, c⟩
    | none =>
      rw [List.head?_append, q] at h
      have e : (List.range m).filter f = [] := by simpa using q
      by_cases hf : f m = true
      · rw [List.filter_cons, if_pos hf] at h
        cases h
        refine ⟨by omega, hf, fun i hi => ?_⟩
        cases z : f i with
        | false => rfl
        | true =>
          have : i ∈ (List.range j).filter f := List.mem_filter.mpr ⟨List.mem_range.mpr hi, z⟩
          rw [e] at this; cases this
      · rw [List.filter_cons, if_neg hf] at h; cases h
theorem cheap_list (c : List Int) (k : Nat) (hk : k ≤ c.length) : ((List.range k).filter fun j => decide (0 < c.getD j 0)).head? = cheapB c k := by
  unfold cheapB
  cases q : ((List.range k).filter fun j => decide (0 < c.getD j 0)).head? with
  | some j =>
    obtain ⟨h1, h2, h3⟩ := filter_head _ q
    cases z : cheap c with
    | none =>
      have := cheapF_none z j
      have := of_decide_eq_true h2
      omega
    | some i =>
      obtain ⟨_, z2, z3, z4⟩ := cheapF_some z
      have e : i = j := by
        rcases Nat.lt_trichotomy i j with l | l | l
        · have := of_decide_eq_false (h3 i l)
          simp only [Nat.sub_zero] at z3
          omega
        · exact l
        · have := z4 j (Nat.zero_le _) l
          have := of_decide_eq_true h2
          simp only [Nat.sub_zero] at *
          omega
      subst e
      simp [h1]
  | none =>
    have e : (List.range k).filter (fun j => decide (0 < c.getD j 0)) = [] := by simpa using q
    cases z : cheap c with
    | none => rfl
    | some i =>
      obtain ⟨_, z2, z3, _⟩ := cheapF_some z
      by_cases l : i < k
      · have : i ∈ (List.range k).filter (fun j => decide (0 < c.getD j 0)) := List.mem_filter.mpr ⟨List.mem_range.mpr l, by simpa using z3⟩
        rw [e] at this; cases this
      · simp [l]
section
variable {P : Program} {w : World} {K : PySem.W.Frag} {mg : Str → Option Value} {base : Heap} {k : Nat}
variable {X : Cx} {Γ : Gm} {Φ : MP} {a b c e tg it : Expr} {es : List Expr} {pos p : Pos} {s t : Sv} {ss : List Sv}
theorem ev_lmore {j : Nat} {e1 e2 e3 : Expr} {c : List Int} {i : Nat} {m : Int} (hX : In P w K mg base k X) (F : PFn P w K mg base j "_law_more" R_more) (g : GlAt X "_law_more") (hj : j ≤ k) (h1 : Ev K X Γ Φ e1 (.d (iT c))) (h2 : Ev K X Γ Φ e2 (.d (.int (i : Int)))) (h3 : Ev K X Γ Φ e3 (.d (.int m))) (hi : i < c.length) (hz : c.length ≤ 100)
    (s1 : starEach [e1, e2, e3] X.env = (false, eval e1 X.env) :: starEach [e2, e3] X.env := by rfl) (s2 : starEach [e2, e3] X.env = (false, eval e2 X.env) :: starEach [e3] X.env := by rfl) (s3 : starEach [e3] X.env = (false, eval e3 X.env) :: starEach [] X.env := by rfl)
    (hpl : (backTo pos (starEach [e2, e3] X.env)).any (·.1) = false := by rfl) : Ev K X Γ Φ (.Call (.Name "_law_more" p) [e1, e2, e3] [] pos) (.d (iT (more c i m))) :=
  ev_call (ds := [iT c, .int (i : Int), .int m]) hX F g hj (eva_cons h1 (eva_cons h2 (eva_cons h3 eva_nil s3) s2) s1) (R_more.mk c i m hi hz) s1 hpl
theorem f_l_deal (T : Tx mg) (F : FnF K mg "_law_deal" s_l_deal ["_law_hall_so", "_law_some", "_law_sold_so", "_law_paid_so", "_law_k"]) (Fl : PFn P w K mg base 4 "_law_lets" (R_llets 3)) (Fm : PFn P w K mg base 1 "_law_more" R_more) : PFn P w K mg base 5 "_law_deal" R_step := by
  refine pfn_of F sc_l_deal (fun ds d h => by cases h; rfl) fun X hX hn ds d h => ?_
  have V := fun (j : Nat) {i : Nat} {x : Str} e => (tab_loc tb_l_deal hn (i := i) (x := x) j e).1
  have L := fun (j : Nat) {i : Nat} {x : Str} e => (tab_loc tb_l_deal hn (i := i) (x := x) j e).2
  have G := fun (j : Nat) {x : Str} e => tab_glo tb_l_deal hn (x := x) j e
  cases h with
  | mk h r c paid k ok hr hc hk hd =>
    have n4 := ok.n4
    have hz : c.length ≤ 100 := by omega
    refine run_guard (x := decide (c.sum < h.s) && lets h r c k) (EvT.ofW (evw_and (evt_lt (ev_sumT hX (G 0 rfl) T.sum (ev_var (V 2 rfl) rfl)) (ev_ixT hX (ev_var (V 0 rfl) rfl) ev_int rfl)) fun _ => evw_and1 (evt_val
      (ev_call (ds := [.int h.s, r.d, iT c, .int (k : Int)]) hX Fl (G 1 rfl) (Nat.le_refl _) (eva_cons (ev_ixT hX (ev_var (V 0 rfl) rfl) ev_int rfl) (eva_cons (ev_var (V 1 rfl) rfl) (eva_cons (ev_var (V 2 rfl) rfl) (eva_cons (ev_var (V 4 rfl) rfl) eva_nil)))) (.mk h r c k hr hk hz hd))))) (fun z => ?_) fun z => ?_
    · have e : step h r c paid k = (more c k 1, paid, .taken) := by
        unfold step
        obtain ⟨z1, z2⟩ := Bool.and_eq_true_iff.mp z
        rw [if_pos ⟨of_decide_eq_true z1, z2⟩]
      rw [e]
      exact run_one (runS_ret (ev_tup (ds := [iT (more c k 1), .int paid, .str "taken"]) (eva_cons (ev_lmore hX Fm (G 2 rfl) (by decide) (ev_var (V 2 rfl) rfl) (ev_var (V 4 rfl) rfl) ev_int hk hz) (eva_cons (ev_var (V 3 rfl) rfl) (eva_cons ev_str eva_nil))) (by simp)))
    have e := step_else (h := h) (r := r) (c := c) (paid := paid) (k := k) fun q => by rw [decide_eq_true q.1, q.2] at z; cases z
    rw [e]
    refine run_cons (runS_setLcF [("_law_j", 6)] [(6, "_law_j")] [(2, "_law_sold_so")] [] (List.range k) (fun i => .int (i : Int)) (fun j => decide (0 < c.getD j 0)) (fun i => .int (i : Int)) hX hn (by decide +kernel)
      (EvI.to (evi_rng1 hX (G 3 rfl) T.range (ev_var (V 4 rfl) rfl) (by omega) (by omega)) (by unfold rngD; rw [show ((k : Int)).toNat = k from rfl]; simp))
      (fun i hi => ⟨_, fun X' hX' B => ⟨tg_name hX'.nd (B.o 0 rfl).2 (by simp), evts_one (evt_gt (ev_ixT hX' (ev_var (B.v 0 rfl) rfl) (ev_var (B.o 0 rfl).1 rfl) (iT_get (by have := List.mem_range.mp hi; omega))) ev_int), fun _ => ev_var (B.o 0 rfl).1 rfl⟩⟩)
      (fun a _ _ => nl_int _) (by rw [List.length_range]; omega) (hn.at_ (i := 5) rfl) (hn.loc rfl) (by decide +kernel)) ?_
    have hc' := cheap_list c k (by omega)
    generalize hL : (List.range k).filter (fun j => decide (0 < c.getD j 0)) = M at hc' ⊢
    have hsh : SeqAt.shaped (.list (M.map fun (q : Nat) => PyData.int (q : Int))) = true := sh_ints _ fun d hd => by
      obtain ⟨q, _, rfl⟩ := List.mem_map.mp hd
      exact ⟨_, rfl⟩
    have refu : ∀ {Γ : Gm} {p1 p2 p4 p5 p6 : Pos} {j i : Nat}, Γ[2]? = some (some (.d (iT c))) → Γ[3]? = some (some (.d (.int paid))) → Run K X Γ MP.top [.Return (some (.Tuple [.Name "_law_sold_so" p1, .Name "_law_paid_so" p2, .Constant (.str "refused") i p6] j p4)) p5] (.rt (.d (stepD (c, paid, .refused)))) := fun g2 g3 =>
      run_one (runS_ret (ev_tup (ds := [iT c, .int paid, .str "refused"]) (eva_cons (ev_var (V 2 rfl) g2) (eva_cons (ev_var (V 3 rfl) g3) (eva_cons ev_str eva_nil))) (by simp)))
    cases r with
    | plain v l => exact run_no (EvT.ofW (EvW.to (evw_and (y := false) (EvT.to (evt_eqS (ev_ixT hX (ev_var (V 1 rfl) rfl) ev_int rfl) ev_str) (show _ = false by cases v <;> decide)) (fun z => nomatch z)) rfl)) (refu rfl rfl)
    | all a b => exact run_no (EvT.ofW (EvW.to (evw_and (y := false) (EvT.to (evt_eqS (ev_ixT hX (ev_var (V 1 rfl) rfl) ev_int rfl) ev_str) (show _ = false by decide)) (fun z => nomatch z)) rfl)) (refu rfl rfl)
    | any a b => exact run_no (EvT.ofW (EvW.to (evw_and (y := false) (EvT.to (evt_eqS (ev_ixT hX (ev_var (V 1 rfl) rfl) ev_int rfl) ev_str) (show _ = false by decide)) (fun z => nomatch z)) rfl)) (refu rfl rfl)
    | oust a fee =>
      have eS : stepRest h (.oust a fee) c paid k = match M with | [] => (c, paid, .refused) | j :: _ => if fee < h.fs.getD k 0 - h.fs.getD j 0 then (more (more c j (-1)) k 1, paid + fee, .ousted) else (c, paid, .refused) := by
        show stepO h fee c paid k = _
        unfold stepO
        unfold cheapB at hc'
        cases q : cheap c with
        | none =>
          rw [q] at hc'
          cases M with
          | nil => rfl
          | cons j r => cases hc'
        | some j =>
          rw [q] at hc'
          simp only at hc'
          by_cases l : j < k
          · rw [if_pos l] at hc'
            cases M with
            | nil => cases hc'
            | cons i r =>
              cases hc'
              simp [l]
          · rw [if_neg l] at hc'
            cases M with
            | nil => simp [l]
            | cons i r => cases hc'
      rw [eS]
      cases M with
      | nil =>
        exact run_no (EvT.ofW (EvW.to (evw_and (y := false) (EvT.to (evt_eqS (ev_ixT hX (ev_var (V 1 rfl) rfl) ev_int rfl) ev_str) (show _ = true by decide)) (fun _ => EvW.to (evw_and (y := false) (EvT.to (evt_ne hX (ev_var (V 5 rfl) rfl) (ev_lst (ds := []) eva_nil (by decide))) (show _ = false from rfl)) (fun z => nomatch z)) rfl)) rfl)) (refu rfl rfl)
      | cons j r =>
        have hj : j < k := by
          have hm : j ∈ (List.range k).filter (fun j => decide (0 < c.getD j 0)) := by rw [hL]; exact List.mem_cons_self
          exact List.mem_range.mp (List.mem_filter.mp hm).1
        have ix0 : ∀ {Γ : Gm} {p1 p2 p3 : Pos} {i : Nat}, Γ[5]? = some (some (.d (.list ((j :: r).map fun (q : Nat) => PyData.int (q : Int))))) → Ev K X Γ MP.top (.Subscript (.Name "_law_cheap" p1) (.Constant (.int 0) i p2) p3) (.d (.int (j : Int))) := fun g => ev_ixL hX (ev_var (V 5 rfl) g) ev_int (atI_zero _ _)
        refine run_guard (x := decide (fee < h.fs.getD k 0 - h.fs.getD j 0)) (EvT.to (EvT.ofW (evw_and (EvT.to (evt_eqS (ev_ixT hX (ev_var (V 1 rfl) rfl) ev_int rfl) ev_str) (show _ = true by decide)) fun _ => evw_and (EvT.to (evt_ne hX (ev_var (V 5 rfl) rfl) (ev_lst (ds := []) eva_nil (by decide)) hsh) (show _ = true from rfl)) fun _ => evw_and1
            (evt_gt (ev_sub (ev_ixT hX (ev_ixT hX (ev_var (V 0 rfl) rfl) ev_int rfl) (ev_var (V 4 rfl) rfl) (iT_get (by omega))) (ev_ixT hX (ev_ixT hX (ev_var (V 0 rfl) rfl) ev_int rfl) (ix0 rfl) (iT_get (by omega)))) (ev_ixT hX (ev_var (V 1 rfl) rfl) ev_int rfl)))) rfl) (fun z => ?_) fun z => ?_
        · have hq := of_decide_eq_true z
          simp only [if_pos hq]
          exact run_one (runS_ret (ev_tup (ds := [iT (more (more c j (-1)) k 1), .int (paid + fee), .str "ousted"]) (eva_cons (ev_lmore hX Fm (G 2 rfl) (by decide) (ev_lmore hX Fm (G 2 rfl) (by decide) (ev_var (V 2 rfl) rfl) (ix0 rfl) (ev_neg ev_int) (by omega) hz) (ev_var (V 4 rfl) rfl) ev_int (by rw [more_len (by omega)]; exact hk) (by rw [more_len (by omega)]; exact hz)) (eva_cons (ev_add (ev_var (V 3 rfl) rfl) (ev_ixT hX (ev_var (V 1 rfl) rfl) ev_int rfl)) (eva_cons ev_str eva_nil))) (by simp)))
        · have hq := of_decide_eq_false z
          simp only [if_neg hq]
          exact refu rfl rfl
theorem worth_range (h : Hl) (c : List Int) (hc : c.length = h.fs.length) : ((List.range c.length).map fun k => h.fs.getD k 0 * c.getD k 0).sum = worth h c := by
  unfold worth
  congr 1
  apply List.ext_getElem
  · simp; omega
  · intro i h1 h2
    simp only [List.length_map, List.length_range] at h1
    simp [List.getD, h1, hc ▸ h1]
theorem f_l_worth (T : Tx mg) (F : FnF K mg "_law_worth" s_l_worth ["_law_hall_so", "_law_counts"]) : PFn P w K mg base 1 "_law_worth" R_worth := by
  refine pfn_of F sc_l_worth (fun ds d h => by cases h; rfl) fun X hX hn ds d h => ?_
  have V := fun (j : Nat) {i : Nat} {x : Str} e => (tab_loc tb_l_worth hn (i := i) (x := x) j e).1
  have G := fun (j : Nat) {x : Str} e => tab_glo tb_l_worth hn (x := x) j e
  cases h with
  | mk h c ok hc =>
    have n4 := ok.n4
    have fb := ok.f
    refine run_one (runS_ret (Ev.to (ev_sumL (ns := (List.range c.length).map fun k => h.fs.getD k 0 * c.getD k 0) hX (G 0 rfl) T.sum rfl
      (Ev.to (ev_lcM [("_law_k", 2)] [(2, "_law_k")] [(1, "_law_counts"), (0, "_law_hall_so")] [] (List.range c.length) (fun i => .int (i : Int)) (fun k => .int (h.fs.getD k 0 * c.getD k 0)) hX hn (by decide +kernel)
        (EvI.to (evi_rng1 (n := (c.length : Int)) hX (G 1 rfl) T.range (Ev.to (ev_lenT hX (G 2 rfl) T.len (ev_var (V 1 rfl) rfl)) (by rw [List.length_map])) (by omega) (by omega)) (by unfold rngD; rw [show ((c.length : Int)).toNat = c.length from rfl]; simp))
        (fun i hi => ⟨_, fun X' hX' B => ⟨tg_name hX'.nd (B.o 0 rfl).2 (by simp), ev_mul (ev_ixT hX' (ev_ixT hX' (ev_var (B.v 1 rfl) rfl) ev_int rfl) (ev_var (B.o 0 rfl).1 rfl) (iT_get (by have := List.mem_range.mp hi; omega))) (ev_ixT hX' (ev_var (B.v 0 rfl) rfl) (ev_var (B.o 0 rfl).1 rfl) (iT_get (List.mem_range.mp hi)))
          (.inl (by
            have hi' : i < h.fs.length := by have := List.mem_range.mp hi; omega
            have e : h.fs.getD i 0 = h.fs[i] := by simp [List.getD, hi']
            have := fb _ (List.getElem_mem hi')
            rw [e]; omega))⟩⟩)
        (fun a _ => nl_int _) (by rw [List.length_range]; omega)) (by rw [List.map_map]; rfl))) (by rw [worth_range h c hc])))
/-! ### the best in hindsight -/
def bestF (h : Hl) (row : List Nat) : Int := ((srt (row.map fun k => h.fs.getD k 0)).reverse.take h.s.toNat).sum
theorem ev_revL {ds : List PyData} {k1 : Nat} {p1 p2 p3 : Pos} (hX : In P w K mg base k X) (ha : Ev K X Γ Φ a (.d (.list ds))) : Ev K X Γ Φ (.Subscript a (.Slice none none (some (.UnaryOp .USub (.Constant (.int 1) k1 p1) p2)) p3) pos) (.d (.list ds.reverse)) := fun σ H Q hs hp kk =>
  PEto (pe_revL pe_sem) (ha σ H _ hs hp fun v H1 e1 h1 => by
    obtain ⟨p, xs, rfl, q, r⟩ := dp_lst h1
    have rv : ∀ {xs : List V} {ds : List PyData}, DpAll K H1 xs ds → DpAll K H1 xs.reverse ds.reverse := fun {xs ds} r => by
      induction ds generalizing xs with
      | nil => cases r; exact .nil
      | cons d ds ih =>
        cases r with | cons h1 h2 =>
        rw [List.reverse_cons, List.reverse_cons]
        exact dps_snoc (ih h2) h1
    exact ⟨p, xs, rfl, by rw [hX.K]; exact q, fun p' hp' => kk _ _ (e1.trans (same_new hp')) (.lst (SqL.of upd_same) (dps_up (same_new hp') (rv r)))⟩)
inductive R_best : List PyData → PyData → Prop where
  | mk (h : Hl) (row : List Nat) (ok : h.Ok) (hr : RowOk h row) : R_best [h.d, rowD row] (.int (bestF h row))
theorem f_l_best (T : Tx mg) (F : FnF K mg "_law_best" s_l_best ["_law_hall_so", "_law_calls_so"]) : PFn P w K mg base 1 "_law_best" R_best := by
  refine pfn_of F sc_l_best (fun ds d h => by cases h; rfl) fun X hX hn ds d h => ?_
  have V := fun (j : Nat) {i : Nat} {x : Str} e => (tab_loc tb_l_best hn (i := i) (x := x) j e).1
  have G := fun (j : Nat) {x : Str} e => tab_glo tb_l_best hn (x := x) j e
  cases h with
  | mk h row ok hr =>
    obtain ⟨r1, r2⟩ := hr
    have s1 := ok.s1
    refine run_one (runS_ret (Ev.to (ev_sumL (ns := (srt (row.map fun k => h.fs.getD k 0)).reverse.take h.s.toNat) hX (G 0 rfl) T.sum rfl
      (Ev.to (ev_slL (l := none) (u := some (h.s.toNat : Int)) hX (ev_revL hX (ev_sorted (ns := row.map fun k => h.fs.getD k 0) hX (G 1 rfl) T.sorted
        (Ev.to (ev_lcM [("_law_k", 2)] [(2, "_law_k")] [(0, "_law_hall_so")] [] row (fun i => .int (i : Int)) (fun k => .int (h.fs.getD k 0)) hX hn (by decide +kernel) (evi_tup hX (ev_var (V 1 rfl) rfl))
          (fun i hi => ⟨_, fun X' hX' B => ⟨tg_name hX'.nd (B.o 0 rfl).2 (by simp), ev_ixT hX' (ev_ixT hX' (ev_var (B.v 0 rfl) rfl) ev_int rfl) (ev_var (B.o 0 rfl).1 rfl) (iT_get (r2 i hi))⟩⟩)
          (fun a _ => nl_int _) (by omega)) (by rw [List.map_map]; rfl)))) trivial (Ev.to (ev_ixT hX (ev_var (V 0 rfl) rfl) ev_int rfl) (svI (by omega)))) (by rw [cutG_to, ← List.map_reverse, List.map_take]))) rfl))
/-! ### mixing -/
def mixF (c n : Int) : Int := (c * (1 + 2 * n) * 48271 % 2147483647 + 7919 * n * n + 104729 * n) * 69621 % 2147483629 / 7
inductive R_mixed : List PyData → PyData → Prop where
  | mk (c n : Int) (h1 : -(2 ^ 64) < c) (h2 : c < 2 ^ 64) (h3 : 0 ≤ n) (h4 : n < 2 ^ 60) : R_mixed [.int c, .int n] (.int (mixF c n))
theorem f_l_mixed (T : Tx mg) (F : FnF K mg "_law_mixed" s_l_mixed ["_law_cell", "_law_n"]) : PFn P w K mg base 1 "_law_mixed" R_mixed := by
  refine pfn_of F sc_l_mixed (fun ds d h => by cases h; rfl) fun X hX hn ds d h => ?_
  have V := fun (j : Nat) {i : Nat} {x : Str} e => (tab_loc tb_l_mixed hn (i := i) (x := x) j e).1
  have L := fun (j : Nat) {i : Nat} {x : Str} e => (tab_loc tb_l_mixed hn (i := i) (x := x) j e).2
  have G := fun (j : Nat) {x : Str} e => tab_glo tb_l_mixed hn (x := x) j e
  cases h with
  | mk c n h1 h2 h3 h4 =>
    refine run_cons (runS_set hX (L 2 rfl) (ev_add (ev_add (ev_mod (ev_int1 hX (G 0 rfl) T.int_ rfl (ev_mul (ev_mul (ev_var (V 0 rfl) rfl) (ev_add ev_int (ev_mul ev_int (ev_var (V 1 rfl) rfl) (.inl (by omega)))) (.inl ⟨h1, h2⟩)) ev_int (.inr (by omega)))) ev_int (by omega))
      (ev_mul (ev_mul ev_int (ev_var (V 1 rfl) rfl) (.inl (by omega))) (ev_var (V 1 rfl) rfl) (.inr (by omega)))) (ev_mul ev_int (ev_var (V 1 rfl) rfl) (.inl (by omega))))) ?_
    exact run_one (runS_ret (ev_fdiv (ev_mod (ev_int1 hX (G 0 rfl) T.int_ rfl (ev_mul (ev_var (V 2 rfl) rfl) ev_int (.inr (by omega)))) ev_int (by omega)) ev_int (by unfold CDiv; omega)))
theorem mixF_nn (c n : Int) : 0 ≤ mixF c n ∧ mixF c n < 2 ^ 31 := by
  unfold mixF
  have h1 := Int.emod_nonneg ((c * (1 + 2 * n) * 48271 % 2147483647 + 7919 * n * n + 104729 * n) * 69621) (b := 2147483629) (by decide)
  have h2 := Int.emod_lt_of_pos ((c * (1 + 2 * n) * 48271 % 2147483647 + 7919 * n * n + 104729 * n) * 69621) (b := 2147483629) (by decide)
  omega
end
end BL
end

section
set_option Elab.async false
set_option linter.all false
set_option maxRecDepth 100000
set_option maxHeartbeats 4000000
/-! BLx: hindsight is the dearest calls: plain law. -/
namespace BL
open PySem PySem.Spec PyProof.Rows L2
/-- the fares sold, one by one -/
def ex : List Int → List Int → List Int
  | f :: fs, n :: c => List.replicate n.toNat f ++ ex fs c
  | _, _ => []
theorem more_cons0 (n : Int) (c : List Int) (m : Int) : more (n :: c) 0 m = (n + m) :: c := by unfold more; simp
theorem more_consS (n : Int) (c : List Int) (k : Nat) (m : Int) : more (n :: c) (k + 1) m = n :: more c k m := by unfold more; simp
theorem sum_rep (n : Nat) (f : Int) : (List.replicate n f).sum = (n : Int) * f := by
  induction n with
  | zero => simp
  | succ n ih => rw [List.replicate_succ, List.sum_cons, ih]; rw [show ((n + 1 : Nat) : Int) = (n : Int) + 1 from rfl, Int.add_mul]; omega
theorem ex_sum : ∀ (fs c : List Int), (∀ x ∈ c, 0 ≤ x) → (ex fs c).sum = (List.zipWith (fun a b => a * b) fs c).sum
  | [], c, _ => by unfold ex; simp
  | f :: fs, [], _ => by unfold ex; simp
  | f :: fs, n :: c, h => by
    unfold ex
    rw [sum_app, sum_rep, List.zipWith_cons_cons, List.sum_cons, ex_sum fs c fun x hx => h x (List.mem_cons_of_mem _ hx)]
    have : ((n.toNat : Nat) : Int) = n := Int.toNat_of_nonneg (h n List.mem_cons_self)
    rw [this, Int.mul_comm]
theorem ex_len : ∀ (fs c : List Int), c.length = fs.length → (∀ x ∈ c, 0 ≤ x) → ((ex fs c).length : Int) = c.sum
  | [], [], _, _ => by unfold ex; simp
  | f :: fs, n :: c, hl, h => by
    unfold ex
    have e1 : ((n.toNat : Nat) : Int) = n := Int.toNat_of_nonneg (h n List.mem_cons_self)
    have e2 := ex_len fs c (by simpa using hl) fun x hx => h x (List.mem_cons_of_mem _ hx)
    rw [List.length_append, List.length_replicate, List.sum_cons]
    omega
theorem ex_up : ∀ (fs c : List Int) (k : Nat), c.length = fs.length → (∀ x ∈ c, 0 ≤ x) → k < c.length → (ex fs (more c k 1)).Perm (fs.getD k 0 :: ex fs c)
  | [], [], _, _, _, hk => absurd hk (by simp)
  | f :: fs, n :: c, 0, hl, h, hk => by
    rw [more_cons0]
    unfold ex
    have : (n + 1).toNat = n.toNat + 1 := by have := h n List.mem_cons_self; omega
    rw [this, List.replicate_succ]
    exact List.Perm.refl _
  | f :: fs, n :: c, k + 1, hl, h, hk => by
    rw [more_consS]
    unfold ex
    have q := ex_up fs c k (by simpa using hl) (fun x hx => h x (List.mem_cons_of_mem _ hx)) (by simpa using hk)
    rw [List.getD_cons_succ]
    exact (q.append_left _).trans List.perm_middle
theorem asc_lt : ∀ {l : List Int} {f : Int}, asc (f :: l) = true → asc l = true ∧ ∀ y ∈ l, f < y
  | [], f, _ => ⟨rfl, fun y hy => nomatch hy⟩
  | g :: l, f, h => by
    have h' : (decide (f < g) && asc (g :: l)) = true := h
    rw [Bool.and_eq_true] at h'
    have hfg := of_decide_eq_true h'.1
    obtain ⟨_, q⟩ := asc_lt h'.2
    refine ⟨h'.2, fun y hy => ?_⟩
    rcases List.mem_cons.mp hy with rfl | hy
    · exact hfg
    · exact Int.lt_trans hfg (q y hy)
theorem ex_mem : ∀ {fs c : List Int} {y : Int}, y ∈ ex fs c → y ∈ fs
  | [], c, y, h => by unfold ex at h; cases h
  | f :: fs, [], y, h => by unfold ex at h; cases h
  | f :: fs, n :: c, y, h => by
    unfold ex at h
    rcases List.mem_append.mp h with h | h
    · rw [(List.mem_replicate.mp h).2]; exact List.mem_cons_self
    · exact List.mem_cons_of_mem _ (ex_mem h)
theorem ex_dn : ∀ (fs c : List Int) (i j : Nat), c.length = fs.length → (∀ x ∈ c, 0 ≤ x) → asc fs = true → cheapF i c = some j →
    ∃ l, j = i + l ∧ l < c.length ∧ (ex fs c).Perm (fs.getD l 0 :: ex fs (more c l (-1))) ∧ ∀ y ∈ ex fs c, fs.getD l 0 ≤ y
  | [], [], i, j, _, _, _, h => by unfold cheapF at h; cases h
  | f :: fs, n :: c, i, j, hl, hp, ha, h => by
    unfold cheapF at h
    obtain ⟨a1, a2⟩ := asc_lt ha
    by_cases q : 0 < n
    · rw [if_pos q] at h
      cases h
      refine ⟨0, rfl, by simp, ?_, fun y hy => ?_⟩
      · rw [more_cons0]
        unfold ex
        have : n.toNat = (n + -1).toNat + 1 := by omega
        rw [this, List.replicate_succ]
        exact List.Perm.refl _
      · rcases List.mem_cons.mp (ex_mem hy) with rfl | hy
        · simp
        · have := a2 y hy; simp; omega
    · rw [if_neg q] at h
      have n0 : n.toNat = 0 := by omega
      obtain ⟨l, h1, h2, h3, h4⟩ := ex_dn fs c (i + 1) j (by simpa using hl) (fun x hx => hp x (List.mem_cons_of_mem _ hx)) a1 h
      refine ⟨l + 1, by omega, by simpa using h2, ?_, fun y hy => ?_⟩
      · rw [more_consS]
        unfold ex
        rw [n0, List.getD_cons_succ]
        simpa using h3
      · unfold ex at hy
        rw [n0] at hy
        rw [List.getD_cons_succ]
        exact h4 y (by simpa using hy)
/-- A: the dearest s of L -/
structure Top (s : Nat) (A L : List Int) : Prop where
  ex : ∃ Z, (A ++ Z).Perm L ∧ (∀ a ∈ A, ∀ z ∈ Z, z ≤ a) ∧ A.length ≤ s ∧ (Z ≠ [] → A.length = s)
theorem sum_perm {a b : List Int} (h : a.Perm b) : a.sum = b.sum := by
  induction h with
  | nil => rfl
  | cons x _ ih => rw [List.sum_cons, List.sum_cons, ih]
  | swap x y l => simp only [List.sum_cons]; omega
  | trans _ _ h1 h2 => exact h1.trans h2
theorem Top.sum {s : Nat} {A L : List Int} (t : Top s A L) : ((srt L).reverse.take s).sum = A.sum := by
  obtain ⟨Z, p, o, l, f⟩ := t.ex
  have e : srt L = srt Z ++ srt A := perm_sorted_eq (((srt_perm L).trans p.symm).trans ((List.perm_append_comm).trans ((srt_perm Z).symm.append (srt_perm A).symm))) (srt_sorted L)
    (List.pairwise_append.mpr ⟨srt_sorted Z, srt_sorted A, fun z hz a ha => o a ((srt_perm A).mem_iff.mp ha) z ((srt_perm Z).mem_iff.mp hz)⟩)
  have la : (srt A).length = A.length := (srt_perm A).length_eq
  rw [e, List.reverse_append]
  have : ((srt A).reverse ++ (srt Z).reverse).take s = (srt A).reverse := by
    by_cases q : Z = []
    · subst q
      rw [show srt [] = [] from List.Perm.eq_nil (srt_perm []), List.reverse_nil, List.append_nil]
      exact List.take_of_length_le (by rw [List.length_reverse, la]; exact l)
    · exact List.take_left' (by rw [List.length_reverse, la]; exact f q)
  rw [this]
  exact sum_perm ((List.reverse_perm _).trans (srt_perm A))
theorem Top.nil (s : Nat) : Top s [] [] := ⟨[], List.Perm.refl _, fun a ha => (nomatch ha), Nat.zero_le _, fun z => absurd rfl z⟩
theorem Top.add {s : Nat} {A A' L : List Int} {x : Int} (t : Top s A L) (p : A'.Perm (x :: A)) (l : A'.length ≤ s) : Top s A' (L ++ [x]) := by
  obtain ⟨Z, q, o, l0, f⟩ := t.ex
  have la : A'.length = A.length + 1 := p.length_eq
  have z : Z = [] := by
    by_cases z : Z = []
    · exact z
    · have := f z; omega
  subst z
  rw [List.append_nil] at q
  exact ⟨[], by rw [List.append_nil]; exact (p.trans (q.cons x)).trans (List.perm_append_comm (l₁ := [x])), fun a _ z hz => absurd hz (by simp), l, fun z => absurd rfl z⟩
theorem Top.out {s : Nat} {A A' B L : List Int} {x m : Int} (t : Top s A L) (p : A'.Perm (x :: A)) (l : s < A'.length) (pb : A'.Perm (m :: B)) (mn : ∀ y ∈ A', m ≤ y) : Top s B (L ++ [x]) := by
  obtain ⟨Z, q, o, l0, f⟩ := t.ex
  have la : A'.length = A.length + 1 := p.length_eq
  have lb : A'.length = B.length + 1 := pb.length_eq
  have xm : (x :: A).Perm (m :: B) := p.symm.trans pb
  refine ⟨m :: Z, ?_, fun b hb z hz => ?_, by omega, fun _ => by omega⟩
  · have e1 : (B ++ m :: Z).Perm (m :: B ++ Z) := List.perm_middle
    have e2 : (m :: B ++ Z).Perm (x :: A ++ Z) := xm.symm.append_right Z
    have e3 : (x :: A ++ Z).Perm (x :: L) := q.cons x
    exact ((e1.trans e2).trans e3).trans (List.perm_append_comm (l₁ := [x]))
  · have bA' : b ∈ A' := pb.mem_iff.mpr (List.mem_cons_of_mem _ hb)
    rcases List.mem_cons.mp hz with rfl | hz
    · exact mn b bA'
    · by_cases e : m = x
      · subst e
        have : A.Perm B := xm.cons_inv
        exact o b (this.mem_iff.mpr hb) z hz
      · have mA : m ∈ A := by
          rcases List.mem_cons.mp (xm.mem_iff.mpr (List.mem_cons_self (a := m) (l := B))) with h | h
          · exact absurd h e
          · exact h
        exact Int.le_trans (o m mA z hz) (mn b bA')
structure Sn (h : Hl) (c : List Int) (L : List Int) : Prop where
  so : Sold h c
  tp : Top h.s.toNat (ex h.fs c) L
theorem seenW_sn {h : Hl} (ok : h.Ok) {c L : List Int} {k : Nat} (n : Sn h c L) (hk : k < h.fs.length) : Sn h (seenW h c k) (L ++ [h.fs.getD k 0]) := by
  have s0 : 0 ≤ h.s := by have := ok.s1; omega
  have so := n.so
  have kc : k < c.length := by rw [so.n]; exact hk
  have p1 : ∀ x ∈ more c k 1, 0 ≤ x := more_nonneg so.p (by have := getD_mem_ge so.p k; omega)
  have n1 : (more c k 1).length = h.fs.length := by rw [more_len kc, so.n]
  have u := ex_up h.fs c k so.n so.p kc
  have l1 := ex_len h.fs (more c k 1) n1 p1
  unfold seenW
  by_cases q : (more c k 1).sum ≤ h.s
  · rw [if_pos q]
    exact ⟨⟨n1, p1, q⟩, n.tp.add u (by omega)⟩
  · rw [if_neg q]
    obtain ⟨j, hj⟩ := sum_pos_cheap (c := more c k 1) (by omega)
    rw [hj]
    show Sn h (more (more c k 1) j (-1)) _
    obtain ⟨l, e, hl, pd, mn⟩ := ex_dn h.fs (more c k 1) 0 j n1 p1 ok.up hj
    have e' : j = l := by omega
    subst e'
    obtain ⟨_, gp⟩ := cheap_lt hj
    have p2 : ∀ x ∈ more (more c k 1) j (-1), 0 ≤ x := more_nonneg p1 (by omega)
    have s2 : (more (more c k 1) j (-1)).sum = (more c k 1).sum + -1 := more_sum hl
    have s1 : (more c k 1).sum = c.sum + 1 := more_sum kc
    have m := so.m
    exact ⟨⟨by rw [more_len hl, n1], p2, by omega⟩, n.tp.out u (by omega) pd mn⟩
theorem seenF_sn {h : Hl} (ok : h.Ok) : ∀ (row : List Nat) (c L : List Int), Sn h c L → (∀ k ∈ row, k < h.fs.length) → Sn h (seenF h c row) (L ++ row.map fun k => h.fs.getD k 0)
  | [], c, L, n, _ => by rw [List.map_nil, List.append_nil]; exact n
  | k :: row, c, L, n, hk => by
    have q := seenF_sn ok row (seenW h c k) (L ++ [h.fs.getD k 0]) (seenW_sn ok n (hk k List.mem_cons_self)) fun j hj => hk j (List.mem_cons_of_mem _ hj)
    rw [List.append_assoc] at q
    exact q
theorem none0_sn {h : Hl} (ok : h.Ok) : Sn h (none0 h) [] := by
  have p : ∀ x ∈ none0 h, 0 ≤ x := fun x hx => by unfold none0 at hx; rw [(List.mem_replicate.mp hx).2]; exact Int.le_refl 0
  have z : (none0 h).sum = 0 := by unfold none0; rw [sum_rep]; omega
  have e : ex h.fs (none0 h) = [] := List.eq_nil_of_length_eq_zero (by have := ex_len h.fs (none0 h) (none0_len h) p; omega)
  exact ⟨⟨none0_len h, p, by rw [z]; have := ok.s1; omega⟩, by rw [e]; exact Top.nil _⟩
/-- THE LAW: hindsight is what the dearest calls are worth -/
theorem best_seen {h : Hl} (ok : h.Ok) {row : List Nat} (hr : ∀ k ∈ row, k < h.fs.length) : bestF h row = worth h (seenF h (none0 h) row) := by
  have n := seenF_sn ok row (none0 h) [] (none0_sn ok) hr
  unfold bestF
  rw [show (row.map fun k => h.fs.getD k 0) = [] ++ row.map fun k => h.fs.getD k 0 from rfl, n.tp.sum, ex_sum _ _ n.so.p]
  rfl
end BL
end

section
set_option Elab.async false
set_option linter.all false
set_option maxRecDepth 100000
set_option maxHeartbeats 4000000
/-! BLd: effects: frames, statements one by one, defs with effects. -/
namespace BL
open PySem PySem.Spec PyProof.Rows L2
/-! ### frames -/
/-- tuples, code tables stay; all else but what lies at S stays -/
structure Fr (T : List (Addr × Str)) (S : List Addr) (H H' : Hp) : Prop where
  tup : TupS H H'
  keep : ∀ b o, H b = some o → b ∉ S → (∀ ps, o ≠ .tbl ps) → H' b = some o
  tabs : LamX.Tabs T H → LamX.Tabs T H'
section
variable {T : List (Addr × Str)} {S S' : List Addr} {H H1 H2 H' : Hp}
theorem Fr.refl (H : Hp) : Fr T S H H := ⟨fun _ _ h _ => h, fun _ _ h _ _ => h, fun h => h⟩
theorem Fr.same (e : Same H H') : Fr T S H H' := ⟨fun _ _ h _ => e _ _ h, fun _ _ h _ _ => e _ _ h, fun h => h.ext e⟩
theorem Fr.trans (a : Fr T S H H1) (b : Fr T S H1 H2) : Fr T S H H2 :=
  ⟨fun c o h q => b.tup c o (a.tup c o h q) q, fun c o h n t => b.keep c o (a.keep c o h n t) n t, fun h => b.tabs (a.tabs h)⟩
theorem Fr.mono (a : Fr T S H H') (h : ∀ x ∈ S, x ∈ S') : Fr T S' H H' := ⟨a.tup, fun b o e n t => a.keep b o e (fun z => n (h b z)) t, a.tabs⟩
/-- what may be changed -/
def Ch : HO → Prop
  | .lst _ => True
  | .dK _ => True
  | .ins _ _ _ => True
  | _ => False
theorem Fr.upd {a : Addr} {o o' : HO} (h : H a = some o) (c : Ch o) (m : a ∈ S) : Fr T S H (upd H a o') := by
  have ne : ∀ b u, H b = some u → ¬ Ch u → b ≠ a := fun b u e n z => by
    subst z
    rw [h] at e
    exact n ((Option.some.inj e) ▸ c)
  refine ⟨fun b u e q => ?_, fun b u e n _ => by rw [upd_ne fun z => n (by rw [z]; exact m)]; exact e, fun hT p hp => ?_⟩
  · rw [upd_ne (ne b u e fun z => by rcases q with ⟨_, q⟩ | ⟨_, _, q⟩ <;> (rw [q] at z; exact z))]
    exact e
  · obtain ⟨ps, h1, h2, h3⟩ := hT p hp
    refine ⟨ps, by rw [upd_ne (ne _ _ h1 fun z => z)]; exact h1, h2, fun pos cv hc => ?_⟩
    obtain ⟨cc, e1, e2⟩ := h3 pos cv hc
    exact ⟨cc, e1, by rw [upd_ne (ne _ _ e2 fun z => z)]; exact e2⟩
/-- a thing that is no table stays -/
theorem Fr.at {a : Addr} {o : HO} (f : Fr T S H H') (h : H a = some o) (n : a ∉ S) (t : ∀ ps, o ≠ .tbl ps := by intro _ z; cases z) : H' a = some o := f.keep a o h n t
end
theorem dp_fr {K : PySem.W.Frag} {T : List (Addr × Str)} {S : List Addr} {H H' : Hp} {v : V} {d : PyData} (f : Fr T S H H') (n : nl d = true) (h : Dp K H v d) : Dp K H' v d := dp_nl f.tup n h
/-- the slots survive: each datum is without lists -/
def nlG (Γ : Gm) : Prop := ∀ (i : Nat) (d : PyData), Γ[i]? = some (some (.d d)) → nl d = true
theorem Slots.fr {K : PySem.W.Frag} {T : List (Addr × Str)} {S : List Addr} {H H' : Hp} {σ : L2.St} {Γ : Gm} (h : Slots K σ H Γ) (f : Fr T S H H') (n : nlG Γ) : Slots K σ H' Γ :=
  ⟨h.1, fun i s e => by
    obtain ⟨v, e1, e2⟩ := h.2 i s e
    refine ⟨v, e1, ?_⟩
    cases s with
    | d x => exact dp_fr f (n i x e) e2
    | r u => exact e2⟩
theorem nlG_nil : nlG [] := fun i d e => by simp at e
theorem nlG_none {Γ : Gm} (h : nlG Γ) : nlG (none :: Γ) := fun i d e => by
  cases i with
  | zero => cases e
  | succ i => exact h i d (by simpa using e)
theorem nlG_r {Γ : Gm} {v : V} (h : nlG Γ) : nlG (some (.r v) :: Γ) := fun i d e => by
  cases i with
  | zero => cases e
  | succ i => exact h i d (by simpa using e)
theorem nlG_d {Γ : Gm} {d : PyData} (n : nl d = true) (h : nlG Γ) : nlG (some (.d d) :: Γ) := fun i d' e => by
  cases i with
  | zero => cases e; exact n
  | succ i => exact h i d' (by simpa using e)
theorem Slots.fit {K : PySem.W.Frag} {σ : L2.St} {H : Hp} {Γ Γ' : Gm} (h : Slots K σ H Γ) (e : Γ = Γ') : Slots K σ H Γ' := e ▸ h
/-! ### statements one by one -/
section
variable {P : Program} {w : World} {K : PySem.W.Frag} {mg : Str → Option Value} {base : Heap} {k : Nat}
variable {X : Cx} {Γ Γ' : Gm} {Φ : MP} {a b c e tg it : Expr} {es : List Expr} {pos p : Pos} {s t : Sv} {ss : List Sv} {σ : L2.St} {H : Hp} {D : Ends} {st : Stmt} {sts bd el : List Stmt}
theorem tb_nil (h : D.nx σ H) : tB X [] D σ H := PBto pss_nil h
theorem tb_cons (h : tS X st { D with nx := fun σ' H' => tB X sts D σ' H' } σ H) : tB X (st :: sts) D σ H := PBto (pss_cons ps_sem pb_sem) h
theorem tb_pure (h : RunS K X Γ Φ st (.nx Γ')) (hs : Slots K σ H Γ) (hp : Φ.p H) (k : ∀ σ' H', Same H H' → Slots K σ' H' Γ' → tB X sts D σ' H') : tB X (st :: sts) D σ H :=
  tb_cons (h σ H _ hs hp k)
theorem tb_ret (h : Ev K X Γ Φ e s) (hs : Slots K σ H Γ) (hp : Φ.p H) (k : ∀ v H', Same H H' → s.ok K H' v → D.rt v H') : tB X (.Return (some e) pos :: sts) D σ H :=
  PBto (pss_cons (ps_ret pe_sem) (pb_sem (sts := sts))) (h σ H _ hs hp k)
theorem tb_retE (h : tE X e σ H D.rt) : tB X (.Return (some e) pos :: sts) D σ H :=
  PBto (pss_cons (ps_ret pe_sem) (pb_sem (sts := sts))) h
theorem tb_if (h : tT X c σ H fun x H' => if x = true then tB X bd { D with nx := fun σ' H' => tB X sts D σ' H' } σ H' else tB X el { D with nx := fun σ' H' => tB X sts D σ' H' } σ H') : tB X (.If c bd el pos :: sts) D σ H :=
  tb_cons (PSto (ps_if pt_sem pb_sem pb_sem) (tT_mono h fun x H' z => by
    cases x with
    | true => exact iteT (by simpa using z)
    | false => exact iteF (by simpa using z)))
/-- a pure test -/
theorem tb_ifP {x : Bool} (h : EvT K X Γ Φ c x) (hs : Slots K σ H Γ) (hp : Φ.p H) (h1 : x = true → ∀ H', Same H H' → tB X bd { D with nx := fun σ' H' => tB X sts D σ' H' } σ H') (h2 : x = false → ∀ H', Same H H' → tB X el { D with nx := fun σ' H' => tB X sts D σ' H' } σ H') : tB X (.If c bd el pos :: sts) D σ H :=
  tb_if (h σ H _ hs hp fun H' e => by
    cases x with
    | true => simpa using h1 rfl H' e
    | false => simpa using h2 rfl H' e)
/-- x = e -/
theorem tb_set {i : Nat} {x : Str} {px : Pos} (hX : In P w K mg base k X) (hl : LocAt X i x) (h : tE X e σ H fun v H' => tB X sts D (σ.set i (some v)) H') (hw : swapsWith e (some (.Name x px)) pos.line X.env = pure false := by rfl) : tB X (.Assign [.Name x px] e pos :: sts) D σ H :=
  tb_cons (PSto (ps_set hX.nd hl.1 hl.2.1 pe_sem hw hl.2.2) h)
/-- e, dropped -/
theorem tb_drop (h : tE X e σ H fun _ H' => tB X sts D σ H') (hw : swapsWith e none pos.line X.env = pure false := by rfl) : tB X (.Expr e pos :: sts) D σ H := tb_cons (PSto (ps_expr pe_sem hw) h)
/-- targets = e -/
theorem tb_unp (h : tE X e σ H fun v H' => tG X tg v σ H' fun σ' H2 => tB X sts D σ' H2) (hs' : swapsWithSole [tg] e pos.line X.env = pure false := by rfl) (hw : swappedStores [tg] e X.env = pure none := by rfl)
    (h1 : (assignEach [tg] X.env).map (·.2) = [assign tg X.env] := by rfl) : tB X (.Assign [tg] e pos :: sts) D σ H := tb_cons (PSto (ps_asg pe_sem pg_sem hs' hw h1) h)
/-- d['x'] = e -/
theorem tb_dput {o i : Expr} {kvs : List (Key × V)} {d : Addr} {x : Str} {pos' : Pos} (hX : In P w K mg base k X) (h : tE X e σ H fun v H1 => tE X o σ H1 fun u H2 => tE X i σ H2 fun z H3 => u = .ref d ∧ z = .str x ∧ H3 d = some (.dK kvs) ∧ kvs.length < 1000 ∧ tB X sts D σ (upd H3 d (.dK (putK kvs (.inr x) v))))
    (hs : swapsWith e (some (.Subscript o i pos')) pos.line X.env = pure false := by rfl) : tB X (.Assign [.Subscript o i pos'] e pos :: sts) D σ H := by
  refine tb_cons (PSto (ps_dput (by have := hX.room.units; omega) pe_sem pe_sem pe_sem hs) ?_)
  refine tE_mono h fun v H1 h1 => tE_mono h1 fun u H2 h2 => tE_mono h2 fun z H3 h3 => ?_
  obtain ⟨rfl, rfl, h4, h5, h6⟩ := h3
  exact ⟨d, _, rfl, DPut.k (k := .inr x) h4 (by rw [sizeLine_eq]; omega), h6⟩
/-- d['x'], pure -/
theorem ev_dget {o i : Expr} {kvs : List (Key × V)} {d : Addr} {x : Str} {v : V} (hX : In P w K mg base k X) (ho : Ev K X Γ Φ o (.r (.ref d))) (hi : Ev K X Γ Φ i (.d (.str x))) (hd : ∀ H, Φ.p H → H d = some (.dK kvs)) (hv : valV kvs (.inr x) = some v) (hs : NoSl i := by intro _ _; rfl) : Ev K X Γ Φ (.Subscript o i pos) (.r v) := fun σ H Q hs' hp kk =>
  PEto (pe_dget (by have := hX.room.units; omega) pe_sem pe_sem hs) (ho σ H _ hs' hp fun u H1 e1 h1 => hi σ H1 _ (hs'.up e1) (Φ.up e1 hp) fun z H2 e2 h2 => by
    cases (show u = V.ref d from h1)
    refine ⟨d, v, rfl, ?_, kk v H2 (e1.trans e2) rfl⟩
    rw [dp_str h2, ← hv]
    exact DGet.k (k := .inr x) (hd H2 (Φ.up (e1.trans e2) hp)))
/-- seen as data -/
theorem Ev.see (h : Ev K X Γ Φ e s) (q : ∀ H v, Φ.p H → s.ok K H v → t.ok K H v) : Ev K X Γ Φ e t := fun σ H Q hs hp k => h σ H Q hs hp fun v H' e1 h1 => k v H' e1 (q H' v (Φ.up e1 hp) h1)
theorem Ev.seeL {l : Addr} {xs : List V} {ds : List PyData} (h : Ev K X Γ Φ e (.r (.ref l))) (q : ∀ H, Φ.p H → H l = some (.lst xs) ∧ DpAll K H xs ds) : Ev K X Γ Φ e (.d (.list ds)) := h.see fun H v hp h1 => by
  cases (show v = V.ref l from h1)
  exact .lst (SqL.of (q H hp).1) (q H hp).2
theorem Ev.weak {Ψ : MP} (h : Ev K X Γ Ψ e s) (q : ∀ H, Φ.p H → Ψ.p H) : Ev K X Γ Φ e s := fun σ H Q hs hp k => h σ H Q hs (q H hp) k
/-- a pure part of an effectful thing -/
theorem Ev.go (h : Ev K X Γ Φ e s) (hs : Slots K σ H Γ) (hp : Φ.p H) {Q : VK} (k : ∀ v H', Same H H' → s.ok K H' v → Q v H') : tE X e σ H Q := h σ H Q hs hp k
theorem Ev.goT (h : Ev K X Γ MP.top e s) (hs : Slots K σ H Γ) {Q : VK} (k : ∀ v H', Same H H' → s.ok K H' v → Q v H') : tE X e σ H Q := h σ H Q hs trivial k
theorem ta_nil {Q : List V → Hp → Prop} (h : Q [] H) : tA X [] σ H Q := PAto pa_nil h
theorem ta_cons {Q : List V → Hp → Prop} (h : tE X e σ H fun v H1 => tA X es σ H1 fun vs H2 => Q (v :: vs) H2) (hs' : starEach (e :: es) X.env = (false, eval e X.env) :: starEach es X.env := by rfl) : tA X (e :: es) σ H Q := PAto (pa_cons pe_sem pa_sem hs') h
theorem te_add {Q : VK} (h : tE X a σ H fun x H1 => tE X b σ H1 fun y H2 => ∃ i j, x = .int i ∧ y = .int j ∧ Q (.int (i + j)) H2) : tE X (.BinOp a .Add b pos) σ H Q := PEto (pe_op op_add pe_sem pe_sem) h
theorem te_tup {j : Nat} {Q : VK} (h : tA X es σ H fun vs H1 => vs.length ≤ 1000 ∧ ∀ p, H1 p = none → Q (.ref p) (upd H1 p (.tup vs))) : tE X (.Tuple es j pos) σ H Q := PEto (pe_tup pa_sem) ⟨fun pos pins s I => wpAny_mono (h.run pos pins s I) (fun _ _ ⟨vs, H', I', r, q⟩ => ⟨vs, H', I', r, by rw [sizeLine_eq]; have := q.1; omega, q.2⟩) fun _ _ z => z⟩
theorem te_lst {Q : VK} (h : tA X es σ H fun vs H1 => vs.length ≤ 1000 ∧ ∀ p, H1 p = none → Q (.ref p) (upd H1 p (.lst vs))) : tE X (.List es pos) σ H Q := PEto (pe_lst pa_sem) ⟨fun pos pins s I => wpAny_mono (h.run pos pins s I) (fun _ _ ⟨vs, H', I', r, q⟩ => ⟨vs, H', I', r, by rw [sizeLine_eq]; have := q.1; omega, q.2⟩) fun _ _ z => z⟩
/-! ### defs whose frame matters -/
/-- FnOk, where no guard stands -/
structure FnG (P : Program) (w : World) (K : PySem.W.Frag) (mg : Str → Option Value) (base : Heap) (CX : CXT) (k : Nat) (f : Addr) (fd : FuncData) (ps : List Str) (sp : Sp) : Prop where
  len : ∀ vs H Q E, sp vs H Q E → vs.length = ps.length
  run : ∀ (A : Around) (outer : List Env) (s : Shared) (H : Hp) (args : Args) (us : List Value) (vs : List V) (Q : VK) (E : XK), A.guards = some [] → Room k A → Env0 P w K mg base A outer s H → BindsTo s fd args (ps.zip us) → Vals vs us → sp vs H Q E →
    codeAny (model P w) A (.call (.ref f) args) (CR CX outer P w H s Q E) s
theorem FnG.of {CX : CXT} {f : Addr} {fd : FuncData} {ps : List Str} {sp : Sp} (F : FnOk P w K mg base CX k f fd ps sp) : FnG P w K mg base CX k f fd ps sp := ⟨F.len, fun A outer s H args us vs Q E _ => F.run A outer s H args us vs Q E⟩
theorem FnG.mono {j : Nat} {CX : CXT} {f : Addr} {fd : FuncData} {ps : List Str} {sp : Sp} (F : FnG P w K mg base CX j f fd ps sp) (h : j ≤ k) : FnG P w K mg base CX k f fd ps sp :=
  ⟨F.len, fun A outer s H args us vs Q E g hr => F.run A outer s H args us vs Q E g (hr.mono h)⟩
theorem run_fnG {CX : CXT} {f : Addr} {fd : FuncData} {ps : List Str} {sp : Sp} {E : XK} {pins : List (Addr × Obj)} {s : Shared} {Q : VK} {us : List Value} {vs : List V} (F : FnG X.prog X.w X.K X.mg X.base CX k f fd ps sp) (hg : X.A.guards = some []) (hr : Room k X.A) (hb : Binds X.K fd ps []) (hx : Passes CX X E)
    (I : Inv X pins σ H s) (r : Vals vs us) (h : sp vs H Q E) : wpAny (model X.prog X.w) X.A (call (.ref f) us) (EP X pins σ Q) X.xe s := by
  have hl : us.length = ps.length := by rw [← r.length]; exact F.len _ _ _ _ h
  have hb' := hb s us I.kIn (by rw [List.append_nil]; exact hl)
  rw [List.append_nil] at hb'
  refine wpAny_call (codeAny_mono (F.run X.A X.stack s H ⟨us, []⟩ us vs Q E hg hr I.env0 hb' r h) fun r s' hq => ?_)
  cases r with
  | error e => exact hx pins σ H s e s' I hq
  | ok fl =>
    cases fl with
    | ret u => exact I.after hq
    | next => exact False.elim hq
    | brk => exact False.elim hq
    | cont => exact False.elim hq
theorem pe_callG {CX : CXT} {f : Addr} {fd : FuncData} {ps : List Str} {sp : Sp} {E : XK} {x : Str} {t : TA} (F : FnG X.prog X.w X.K X.mg X.base CX k f fd ps sp) (hgd : X.A.guards = some []) (hr : Room k X.A) (hg : Gl X x) (hm : X.mg x = some (.ref f)) (hk : PySem.W.keepIn X.K (.ref f) = true) (hb : Binds X.K fd ps []) (hx : Passes CX X E)
    (ha : PA X (e :: es) t) (hdb : (x == ("__debug__" : Str)) = false := by decide) (he : starEach (e :: es) X.env = (false, eval e X.env) :: starEach es X.env := by rfl) (hpl : (backTo pos (starEach es X.env)).any (·.1) = false := by rfl) :
    PE X (.Call (.Name x p) (e :: es) [] pos) (fun σ H Q => t σ H fun vs H1 => sp vs H1 Q E) := by
  refine ⟨fun pins s σ H Q I h => ?_⟩
  refine wpAny_Call_Name_kw (ld_glob I hg hm ?_ hdb)
  refine PySem.W.callWith_K (h₀ := X.base) I.ok.mod.kin hk (thn (ha.run pos pins s σ H _ I h) fun us s1 ⟨vs, H1, I1, r, q⟩ => ⟨I1.kIn, ?_⟩) he hpl
  exact run_fnG F hgd hr hb hx I1 r q
/-- a def of the module that has effects and lets no exception out -/
def EFn (P : Program) (w : World) (K : PySem.W.Frag) (mg : Str → Option Value) (base : Heap) (j : Nat) (x : Str) (sp : Sp) : Prop :=
  ∃ (f : Addr) (fd : FuncData) (ps : List Str), mg x = some (.ref f) ∧ PySem.W.keepIn K (.ref f) = true ∧ Binds K fd ps [] ∧ FnG P w K mg base CX0 j f fd ps sp
theorem te_callG {x : Str} {j : Nat} {sp : Sp} {Q : VK} (hX : In P w K mg base k X) (hgd : X.A.guards = some []) (F : EFn P w K mg base j x sp) (g : GlAt X x) (hj : j ≤ k) (h : tA X (e :: es) σ H fun vs H1 => sp vs H1 Q E0)
    (he : starEach (e :: es) X.env = (false, eval e X.env) :: starEach es X.env := by rfl) (hpl : (backTo pos (starEach es X.env)).any (·.1) = false := by rfl) : tE X (.Call (.Name x p) (e :: es) [] pos) σ H Q := by
  obtain ⟨f, fd, ps, hm, kp, hb, F⟩ := F
  have F' : FnG X.prog X.w X.K X.mg X.base CX0 j f fd ps sp := by rw [hX.prog, hX.w, hX.K, hX.mg, hX.base]; exact F
  exact PEto (pe_callG F' hgd (hX.room.mono hj) g.1 (by rw [hX.mg]; exact hm) (by rw [hX.K]; exact kp) (by rw [hX.K]; exact hb) pass0 pa_sem g.2.1 he hpl) h
/-- THE RULE for such a def -/
theorem efn_of {x : Str} {st : Stmt} {N ps : List Str} {sp : Sp} (F : FnF K mg x st ps) (S : FnScope N ps (defScope st)) (hl : ∀ vs H Q E, sp vs H Q E → vs.length = ps.length)
    (body : ∀ X, In P w K mg base k X → X.A.guards = some [] → Nm N (defScope st) X → ∀ vs H Q, sp vs H Q E0 → tB X (defBody st) { nx := fun _ H' => Q .non H', rt := Q } (L2.start N vs) H) (hE : ∀ vs H Q E, sp vs H Q E → sp vs H Q E0) : EFn P w K mg base (k + 1) x sp := by
  obtain ⟨f, fd, F, hb, hm⟩ := F
  obtain ⟨oc, od, kV, doc, pm, an, cdv, ct, osl, rfl, lk, hcd⟩ := F.ex
  refine ⟨f, _, ps, hm, F.kp, hb, hl, fun A outer s H args us vs Q E g hr e0 hb' r h => ?_⟩
  refine LamX.run_ofS lk hcd S hr e0 hb' r (hl _ _ _ _ h) fun hr' => ?_
  exact ⟨_, (pb_sem).nox, body _ (nm_inX hr' S.nd) g ⟨rfl, rfl, fun _ => rfl, PassesOwn.never⟩ vs H Q (hE _ _ _ _ h)⟩
/-- the slots at the entry, by any kinds of values -/
def startS (N : List Str) (ss : List Sv) : Gm := (ss.map some) ++ List.replicate (N.length - ss.length) none
theorem svall_get : ∀ {vs : List V} {ss : List Sv} {i : Nat} {s : Sv}, SvAll K H vs ss → ss[i]? = some s → ∃ v, vs[i]? = some v ∧ s.ok K H v
  | _, _, _, _, .nil, e => by simp at e
  | _, _, 0, _, .cons h _, e => by simp at e; subst e; exact ⟨_, rfl, h⟩
  | _, _, i + 1, _, .cons _ r, e => by
    obtain ⟨v, h1, h2⟩ := svall_get (i := i) r (by simpa using e)
    exact ⟨v, by simpa using h1, h2⟩
theorem startS_slots {N : List Str} {vs : List V} {ss : List Sv} (h : SvAll K H vs ss) : Slots K (L2.start N vs) H (startS N ss) := by
  have hl := SvAll.len h
  refine ⟨by unfold L2.start startS; simp [hl], fun i s e => ?_⟩
  unfold startS at e
  unfold L2.start
  by_cases hi : i < ss.length
  · rw [List.getElem?_append_left (by simpa using hi), List.getElem?_map] at e
    cases q : ss[i]? with
    | none => rw [q] at e; cases e
    | some d =>
      rw [q] at e
      have e' : s = d := (Option.some.inj (Option.some.inj e)).symm
      subst e'
      obtain ⟨v, v1, v2⟩ := svall_get h q
      exact ⟨v, by rw [List.getElem?_append_left (by simp; omega), List.getElem?_map, v1]; rfl, v2⟩
  · rw [List.getElem?_append_right (by simpa using hi), List.getElem?_replicate] at e
    split at e <;> cases e
end
end BL
end

section
set_option Elab.async false
set_option linter.all false
set_option maxRecDepth 100000
set_option maxHeartbeats 4000000
/-! BLe: the drawing machine. -/
namespace BL
open PySem PySem.Spec PyProof.Rows L2
structure MV (m lc lg : Addr) (cs gs : List Int) (sp : Int) (H : Hp) : Prop where
  m : H m = some (.dK [(.inr "cells", .ref lc), (.inr "great", .ref lg), (.inr "spot", .int sp)])
  c : H lc = some (.lst (cs.map V.int))
  g : H lg = some (.lst (gs.map V.int))
def MAt (m lc lg : Addr) (N : Nat) (H : Hp) : Prop := ∃ (cs gs : List Int) (sp : Int), MV m lc lg cs gs sp H ∧ lc ≠ lg ∧ cs.length = 64 ∧ (∀ c ∈ cs, 0 ≤ c ∧ c < 2 ^ 31) ∧ 0 ≤ sp ∧ sp ≤ (N : Int)
section
variable {m lc lg : Addr} {cs gs : List Int} {sp : Int} {N : Nat} {H H' : Hp} {T : List (Addr × Str)} {S : List Addr}
theorem MV.fr (h : MV m lc lg cs gs sp H) (f : Fr T S H H') (h1 : m ∉ S) (h2 : lc ∉ S) (h3 : lg ∉ S) : MV m lc lg cs gs sp H' := ⟨f.at h.m h1, f.at h.c h2, f.at h.g h3⟩
theorem MV.up (h : MV m lc lg cs gs sp H) (e : Same H H') : MV m lc lg cs gs sp H' := ⟨e _ _ h.m, e _ _ h.c, e _ _ h.g⟩
theorem MAt.fr (h : MAt m lc lg N H) (f : Fr T S H H') (h1 : m ∉ S) (h2 : lc ∉ S) (h3 : lg ∉ S) : MAt m lc lg N H' := by
  obtain ⟨cs, gs, sp, a, b⟩ := h
  exact ⟨cs, gs, sp, a.fr f h1 h2 h3, b⟩
theorem MAt.up (h : MAt m lc lg N H) (e : Same H H') : MAt m lc lg N H' := by
  obtain ⟨cs, gs, sp, a, b⟩ := h
  exact ⟨cs, gs, sp, a.up e, b⟩
theorem MAt.mono {M : Nat} (h : MAt m lc lg N H) (l : N ≤ M) : MAt m lc lg M H := by
  obtain ⟨cs, gs, sp, a, b1, b2, b3, b4, b5⟩ := h
  exact ⟨cs, gs, sp, a, b1, b2, b3, b4, by omega⟩
def MVp (m lc lg : Addr) (cs gs : List Int) (sp : Int) : MP := ⟨MV m lc lg cs gs sp, fun e h => h.up e⟩
end
section
variable {P : Program} {w : World} {K : PySem.W.Frag} {mg : Str → Option Value} {base : Heap} {k : Nat}
variable {X : Cx} {Γ Γ' : Gm} {Φ : MP} {a b c e tg it : Expr} {es : List Expr} {pos p : Pos} {s t : Sv} {ss : List Sv} {σ : L2.St} {H : Hp} {D : Ends} {st : Stmt} {sts bd el : List Stmt}
def spDraw (T : List (Addr × Str)) : Sp := fun vs H Q _ => ∃ (m lc lg : Addr) (N : Nat) (n : Int), vs = [.ref m, .int n] ∧ MAt m lc lg N H ∧ N < 2 ^ 50 ∧ 0 < n ∧ n < 2 ^ 20 ∧
  ∀ (i : Int) (H' : Hp), 0 ≤ i → i < n → Fr T [m, lc, lg] H H' → MAt m lc lg (N + 1) H' → Q (.int i) H'
/-- the same promise, any wish of exceptions -/
theorem ev_mixed {j : Nat} {e1 e2 : Expr} {i n : Int} (hX : In P w K mg base k X) (F : PFn P w K mg base j "_law_mixed" R_mixed) (g : GlAt X "_law_mixed") (hj : j ≤ k) (h1 : Ev K X Γ Φ e1 (.d (.int i))) (h2 : Ev K X Γ Φ e2 (.d (.int n))) (b1 : -(2 ^ 64) < i) (b2 : i < 2 ^ 64) (b3 : 0 ≤ n) (b4 : n < 2 ^ 60)
    (s1 : starEach [e1, e2] X.env = (false, eval e1 X.env) :: starEach [e2] X.env := by rfl) (s2 : starEach [e2] X.env = (false, eval e2 X.env) :: starEach [] X.env := by rfl)
    (hpl : (backTo pos (starEach [e2] X.env)).any (·.1) = false := by rfl) : Ev K X Γ Φ (.Call (.Name "_law_mixed" p) [e1, e2] [] pos) (.d (.int (mixF i n))) :=
  ev_call (ds := [.int i, .int n]) hX F g hj (eva_cons h1 (eva_cons h2 eva_nil s2) s1) (.mk i n b1 b2 b3 b4) s1 hpl
theorem f_l_draw {T : List (Addr × Str)} (tx : Tx mg) (F : FnF K mg "_law_draw" s_l_draw ["_law_m", "_law_limit"]) (Fm : PFn P w K mg base 1 "_law_mixed" R_mixed) : EFn P w K mg base 2 "_law_draw" (spDraw T) := by
  refine efn_of F sc_l_draw (fun vs H Q E h => by obtain ⟨_, _, _, _, _, rfl, _⟩ := h; rfl) (fun X hX hgd hn vs H Q h => ?_) (fun vs H Q E h => h)
  have Vr := fun (j : Nat) {i : Nat} {x : Str} e => (tab_loc tb_l_draw hn (i := i) (x := x) j e).1
  have L := fun (j : Nat) {i : Nat} {x : Str} e => (tab_loc tb_l_draw hn (i := i) (x := x) j e).2
  have G := fun (j : Nat) {x : Str} e => tab_glo tb_l_draw hn (x := x) j e
  obtain ⟨m, lc, lg, N, n, rfl, hm, hN, n0, n1, kk⟩ := h
  obtain ⟨cs, gs, sp, hv, hcg, hcl, hcb, hs0, hs1⟩ := hm
  have s0 : Slots K (L2.start n_l_draw [.ref m, .int n]) H (startS n_l_draw [.r (.ref m), .d (.int n)]) := startS_slots (.cons rfl (.cons (.int n) .nil))
  -- n = m['spot']
  refine tb_pure (Φ := MVp m lc lg cs gs sp) (runS_set hX (L 2 rfl) (Ev.see (s := .r (.int sp)) (t := .d (.int sp)) (ev_dget (d := m) (x := "spot") hX (ev_var (Vr 0 rfl) rfl) ev_str (fun H h => h.m) rfl) fun H v _ h => by cases (show v = V.int sp from h); exact .int sp)) s0 hv fun σ1 H1 e1 s1 => ?_
  -- m['spot'] = n + 1
  refine tb_dput (kvs := [(.inr "cells", .ref lc), (.inr "great", .ref lg), (.inr "spot", .int sp)]) (d := m) (x := "spot") hX ?_
  refine (ev_add (ev_var (Vr 2 rfl) rfl) ev_int).goT s1 fun v H2 e2 h2 => (ev_var (Vr 0 rfl) rfl).goT (s1.up e2) fun u H3 e3 h3 => ev_str.goT (s1.up (e2.trans e3)) fun z H4 e4 h4 => ?_
  have v4 := hv.up (((e1.trans e2).trans e3).trans e4)
  refine ⟨h3, dp_str h4, v4.m, by simp, ?_⟩
  rw [dp_int h2]
  have hmc : lc ≠ m := fun z => by have := v4.m; rw [← z, v4.c] at this; cases this
  have hmg : lg ≠ m := fun z => by have := v4.m; rw [← z, v4.g] at this; cases this
  have v5 : MV m lc lg cs gs (sp + 1) (upd H4 m (.dK (putK [(.inr "cells", .ref lc), (.inr "great", .ref lg), (.inr "spot", .int sp)] (.inr "spot") (.int (sp + 1))))) :=
    ⟨by rw [upd_same]; rfl, by rw [upd_ne hmc]; exact v4.c, by rw [upd_ne hmg]; exact v4.g⟩
  have f5 : Fr T [m, lc, lg] H (upd H4 m (.dK (putK [(.inr "cells", .ref lc), (.inr "great", .ref lg), (.inr "spot", .int sp)] (.inr "spot") (.int (sp + 1))))) := (Fr.same (((e1.trans e2).trans e3).trans e4)).trans (Fr.upd v4.m trivial (by simp))
  have s5 : Slots K σ1 (upd H4 m (.dK (putK [(.inr "cells", .ref lc), (.inr "great", .ref lg), (.inr "spot", .int sp)] (.inr "spot") (.int (sp + 1))))) [some (.r (.ref m)), some (.d (.int n)), some (.d (.int sp)), none, none, none] :=
    (s1.up ((e2.trans e3).trans e4)).fr (Fr.upd (T := []) (S := [m]) v4.m trivial (by simp)) (nlG_r (nlG_d (nl_int _) (nlG_d (nl_int _) (nlG_none (nlG_none (nlG_none nlG_nil))))))
  generalize upd H4 m (.dK (putK [(.inr "cells", .ref lc), (.inr "great", .ref lg), (.inr "spot", .int sp)] (.inr "spot") (.int (sp + 1)))) = H5 at v5 f5 s5 ⊢
  clear v4 h2 h3 h4 e1 e2 e3 e4 s1 s0 hv
  -- the end
  have tail : ∀ (σ : L2.St) (H : Hp) (x3 x4 x5 : Option Sv), Slots K σ H [some (.r (.ref m)), some (.d (.int n)), some (.d (.int sp)), x3, x4, x5] → MV m lc lg cs gs (sp + 1) H → (∀ (i : Int) (H' : Hp), 0 ≤ i → i < n → Same H H' → Q (.int i) H') →
      tB X ((defBody s_l_draw).drop 3) { nx := fun _ H' => Q .non H', rt := Q } σ H := fun σ H x3 x4 x5 s hv kq => by
    refine tb_pure (Φ := MVp m lc lg cs gs (sp + 1)) (runS_set hX (L 3 rfl) (ev_dget (d := m) (x := "cells") (v := .ref lc) hX (ev_var (Vr 0 rfl) rfl) ev_str (fun H h => h.m) rfl)) s hv fun σ1 H1 e1 s1 => ?_
    have hx : (sp % 64).toNat < cs.length := by rw [hcl]; omega
    have ci : 0 ≤ cs.getD (sp % 64).toNat 0 ∧ cs.getD (sp % 64).toNat 0 < 2 ^ 31 := by
      have e : cs.getD (sp % 64).toNat 0 = cs[(sp % 64).toNat] := by simp [List.getD, hx]
      rw [e]; exact hcb _ (List.getElem_mem hx)
    have at_ : ∀ {Γ : Gm} {p1 p2 p3 p4 p5 p6 p7 : Pos} {j : Nat}, Γ[2]? = some (some (.d (.int sp))) → Γ[3]? = some (some (.r (.ref lc))) → Ev K X Γ (MVp m lc lg cs gs (sp + 1)) (.Subscript (.Name "_law_lot" p1) (.BinOp (.Call (.Name "int" p2) [.Name "_law_n" p3] [] p4) .Mod (.Constant (.int 64) j p5) p6) p7) (.d (.int (cs.getD (sp % 64).toNat 0))) := fun g2 g3 =>
      ev_ixL (ds := cs.map .int) (i := (((sp % 64).toNat : Nat) : Int)) hX (Ev.seeL (ev_var (Vr 3 rfl) g3) fun H h => ⟨h.c, dps_of_ints cs⟩) (Ev.to (ev_mod (ev_int1 hX (G 0 rfl) tx.int_ rfl (ev_var (Vr 2 rfl) g2)) ev_int (by omega)) (svI (by omega))) (iT_get hx)
    refine tb_ret (Φ := MVp m lc lg cs gs (sp + 1)) (ev_mod (ev_int1 hX (G 0 rfl) tx.int_ rfl (ev_mixed hX Fm (G 2 rfl) (Nat.le_refl _) (ev_mixed hX Fm (G 2 rfl) (Nat.le_refl _) (ev_add (at_ rfl rfl) (ev_mul ev_int (ev_fdiv (ev_var (Vr 2 rfl) rfl) ev_int (by unfold CDiv; omega)) (.inl (by omega)))) (ev_var (Vr 2 rfl) rfl) (by omega) (by omega) hs0 (by omega))
      (ev_add (ev_var (Vr 2 rfl) rfl) ev_int) (by have := mixF_nn (cs.getD (sp % 64).toNat 0 + 31 * (sp / 64)) sp; omega) (by have := mixF_nn (cs.getD (sp % 64).toNat 0 + 31 * (sp / 64)) sp; omega) (by omega) (by omega))) (ev_var (Vr 1 rfl) rfl) n0) s1 (hv.up e1) fun v H2 e2 h2 => ?_
    rw [dp_int h2]
    exact kq _ H2 (Int.emod_nonneg _ (by omega)) (Int.emod_lt_of_pos _ n0) (e1.trans e2)
  have great : ∀ {Γ : Gm} {p1 p2 p3 : Pos} {j : Nat}, Γ[0]? = some (some (.r (.ref m))) → Ev K X Γ (MVp m lc lg cs gs (sp + 1)) (.Subscript (.Name "_law_m" p1) (.Constant (.str "great") j p2) p3) (.r (.ref lg)) := fun g0 =>
    ev_dget (d := m) (x := "great") hX (ev_var (Vr 0 rfl) g0) ev_str (fun H h => h.m) rfl
  have kq : ∀ (H' H2 : Hp), Fr T [m, lc, lg] H H' → MV m lc lg cs gs (sp + 1) H' → ∀ (i : Int), 0 ≤ i → i < n → Same H' H2 → Q (.int i) H2 := fun H' H2 f hv i i0 i1 e => kk i H2 i0 i1 (f.trans (Fr.same e)) ⟨cs, gs, sp + 1, hv.up e, hcg, hcl, hcb, by omega, by omega⟩
  refine tb_ifP (x := !gs.isEmpty) (Φ := MVp m lc lg cs gs (sp + 1)) (EvT.to (evt_ne (x := .list (gs.map .int)) hX (Ev.seeL (great rfl) fun H h => ⟨h.g, dps_of_ints gs⟩) (ev_lst (ds := []) eva_nil (by decide)) (sh_ints _ fun d hd => by obtain ⟨i, _, rfl⟩ := List.mem_map.mp hd; exact ⟨i, rfl⟩)) (by cases gs <;> rfl)) s5 v5 (fun hg H6 e6 => ?_) fun hg H6 e6 => ?_
  · have hlen : 0 < gs.length := by cases gs with | nil => cases hg | cons => simp
    -- lot, here, cell
    refine tb_pure (Φ := MVp m lc lg cs gs (sp + 1)) (runS_set hX (L 3 rfl) (great rfl)) (s5.up e6) (v5.up e6) fun σ7 H7 e7 s7 => ?_
    have hx : (sp % (gs.length : Int)).toNat < gs.length := by
      have := Int.emod_lt_of_pos sp (show (0 : Int) < (gs.length : Int) by omega)
      have := Int.emod_nonneg sp (show (gs.length : Int) ≠ 0 by omega)
      omega
    refine tb_pure (Φ := MVp m lc lg cs gs (sp + 1)) (runS_set hX (L 4 rfl) (Ev.to (ev_mod (ev_int1 hX (G 0 rfl) tx.int_ rfl (ev_var (Vr 2 rfl) rfl)) (ev_lenL (ds := gs.map .int) hX (G 1 rfl) tx.len (Ev.seeL (ev_var (Vr 3 rfl) rfl) fun H h => ⟨h.g, dps_of_ints gs⟩)) (by rw [List.length_map]; omega)) (show _ = Sv.d (.int (((sp % (gs.length : Int)).toNat : Nat) : Int)) from svI (by
      rw [List.length_map]
      have := Int.emod_nonneg sp (show (gs.length : Int) ≠ 0 by omega)
      omega)))) s7 (v5.up (e6.trans e7)) fun σ8 H8 e8 s8 => ?_
    refine tb_pure (Φ := MVp m lc lg cs gs (sp + 1)) (runS_set hX (L 5 rfl) (ev_ixL (ds := gs.map .int) hX (Ev.seeL (ev_var (Vr 3 rfl) rfl) fun H h => ⟨h.g, dps_of_ints gs⟩) (ev_var (Vr 4 rfl) rfl) (iT_get hx))) s8 (v5.up ((e6.trans e7).trans e8)) fun σ9 H9 e9 s9 => ?_
    have v9 := v5.up (((e6.trans e7).trans e8).trans e9)
    refine tb_ifP (Φ := MVp m lc lg cs gs (sp + 1)) (evt_gt (ev_var (Vr 5 rfl) rfl) ev_int) s9 v9 (fun hc H10 e10 => ?_) fun hc H10 e10 => ?_
    · refine tb_unp ?_
      refine (ev_fdiv (ev_var (Vr 5 rfl) rfl) (ev_var (Vr 1 rfl) rfl) (by unfold CDiv; omega)).goT (s9.up e10) fun v H11 e11 h11 => PGto (pg_sub pe_sem pe_sem set_list) ?_
      refine (ev_var (Vr 3 rfl) rfl).goT (s9.up (e10.trans e11)) fun o H12 e12 h12 => (ev_var (Vr 4 rfl) rfl).goT (s9.up ((e10.trans e11).trans e12)) fun ix H13 e13 h13 => ?_
      have v13 := v9.up (((e10.trans e11).trans e12).trans e13)
      refine ⟨lg, gs.map V.int, _, (sp % (gs.length : Int)).toNat, h12, dp_int h13, v13.g, by rw [List.length_map]; unfold ixN; rw [if_pos (by omega), if_pos (by omega)]; rfl, ?_⟩
      rw [dp_int h11, ← List.map_set]
      have hcl2 : lc ≠ lg := hcg
      have fl : Fr T [m, lc, lg] H13 (upd H13 lg (.lst ((gs.set (sp % (gs.length : Int)).toNat (gs.getD (sp % (gs.length : Int)).toNat 0 / n)).map V.int))) := Fr.upd v13.g trivial (by simp)
      have s13 := (s9.up (((e10.trans e11).trans e12).trans e13)).fr fl (nlG_r (nlG_d (nl_int _) (nlG_d (nl_int _) (nlG_r (nlG_d (nl_int _) (nlG_d (nl_int _) nlG_nil))))))
      refine tb_ret (Φ := MP.top) (ev_mod (ev_int1 hX (G 0 rfl) tx.int_ rfl (ev_var (Vr 5 rfl) rfl)) (ev_var (Vr 1 rfl) rfl) n0) s13 trivial fun v H14 e14 h14 => ?_
      rw [dp_int h14]
      refine kk _ H14 (Int.emod_nonneg _ (by omega)) (Int.emod_lt_of_pos _ n0) ((f5.trans (Fr.same (((e6.trans e7).trans e8).trans e9))).trans ((Fr.same (((e10.trans e11).trans e12).trans e13)).trans (fl.trans (Fr.same e14)))) ?_
      refine ⟨cs, _, sp + 1, ⟨e14 _ _ (by rw [upd_ne fun z => hmg z.symm]; exact v13.m), e14 _ _ (by rw [upd_ne hcl2]; exact v13.c), e14 _ _ upd_same⟩, hcg, hcl, hcb, by omega, by omega⟩
    · refine tb_nil (tb_nil ?_)
      exact tail _ _ _ _ _ (s9.up e10) (v9.up e10) fun i H' i0 i1 e => kq _ _ (f5.trans (Fr.same (((e6.trans e7).trans e8).trans e9))) v9 i i0 i1 (e10.trans e)
  · refine tb_nil ?_
    exact tail _ _ _ _ _ (s5.up e6) (v5.up e6) fun i H' i0 i1 e => kq _ _ f5 v5 i i0 i1 (e6.trans e)
end
end BL
end

section
set_option Elab.async false
set_option linter.all false
set_option maxRecDepth 100000
set_option maxHeartbeats 4000000
/-! BLf: halls and rules that are drawn. -/
namespace BL
open PySem PySem.Spec PyProof.Rows L2
section
variable {P : Program} {w : World} {K : PySem.W.Frag} {mg : Str → Option Value} {base : Heap} {k : Nat}
variable {X : Cx} {Γ Γ' : Gm} {Φ : MP} {a b c e tg it : Expr} {es : List Expr} {pos p : Pos} {s t : Sv} {ss : List Sv} {σ : L2.St} {H : Hp} {D : Ends} {st : Stmt} {sts bd el : List Stmt} {T : List (Addr × Str)} {m lc lg : Addr} {N : Nat}
/-- for x in range(e): .. -/
theorem tb_forR {i : Nat} {x : Str} {px p2 : Pos} (hX : In P w K mg base k X) (g : GlAt X "range") (hm : mg "range" = none) (pas : PassesOwn (model X.prog X.w) X.A X.env X.xe) (hl : LocAt X i x) (Iv : Nat → L2.St → Hp → Prop)
    (h : tE X a σ H fun v H1 => ∃ n : Nat, v = .int (n : Int) ∧ n < 2 ^ 61 ∧ Iv 0 σ H1 ∧ (∀ j, j < n → ∀ σ H, Iv j σ H → tB X bd { D with nx := Iv (j + 1), ct := Iv (j + 1), bk := fun σ' H' => tB X sts D σ' H' } (σ.set i (some (.int (j : Int)))) H) ∧ (∀ σ H, Iv n σ H → tB X sts D σ H))
    (hs : starEach [a] X.env = [(false, eval a X.env)] := by rfl) (hf : ∀ z, foldedSetIterable (.Call (.Name "range" p) [a] [] p2) X.env z = pure z := by intro _; rfl) : tB X (.For (.Name x px) (.Call (.Name "range" p) [a] [] p2) bd [] pos :: sts) D σ H := by
  refine tb_cons (PSto (ps_for pas hX.calm pi_sem pg_sem pb_sem hf) (PIto (pi_range1 g.1 (by rw [hX.mg]; exact hm) pa_sem hs) (ta_cons (tE_mono h fun v H1 h1 => ta_nil ?_) (by rw [hs]; rfl))))
  obtain ⟨n, rfl, hn, h0, turn, done⟩ := h1
  refine ⟨(n : Int), rfl, by omega, by omega, ?_⟩
  refine for_it (walk_range (lo := 0) (n := ((n : Int)).toNat)) Iv h0 (fun _ _ _ _ _ => trivial) (fun j x' σ2 H2 H3 hj p y => ?_) (fun σ2 H2 p => done σ2 H2 p)
  obtain ⟨rfl, rfl⟩ := y
  refine PGto (pg_name hX.nd hl.1 hl.2.1 hl.2.2) ?_
  show tB X bd _ (σ2.set i (some (V.int (0 + (j : Int))))) _
  rw [Int.zero_add]
  exact turn j hj σ2 _ p
/-- a draw -/
theorem te_draw {Q : VK} (hX : In P w K mg base k X) (hgd : X.A.guards = some []) (F : EFn P w K mg base 2 "_law_draw" (spDraw T)) (g : GlAt X "_law_draw") (hj : 2 ≤ k)
    (h : tE X a σ H fun v H1 => tE X b σ H1 fun u H2 => v = .ref m ∧ ∃ n : Int, u = .int n ∧ MAt m lc lg N H2 ∧ N < 2 ^ 50 ∧ 0 < n ∧ n < 2 ^ 20 ∧ ∀ (i : Int) (H' : Hp), 0 ≤ i → i < n → Fr T [m, lc, lg] H2 H' → MAt m lc lg (N + 1) H' → Q (.int i) H')
    (s1 : starEach [a, b] X.env = (false, eval a X.env) :: starEach [b] X.env := by rfl) (s2 : starEach [b] X.env = (false, eval b X.env) :: starEach [] X.env := by rfl)
    (hpl : (backTo pos (starEach [b] X.env)).any (·.1) = false := by rfl) : tE X (.Call (.Name "_law_draw" p) [a, b] [] pos) σ H Q :=
  te_callG hX hgd F g hj (ta_cons (tE_mono h fun v H1 h1 => ta_cons (tE_mono h1 fun u H2 h2 => ta_nil (by
    obtain ⟨rfl, n, rfl, h3⟩ := h2
    exact ⟨m, lc, lg, N, n, rfl, h3⟩)) s2) s1) s1 hpl
/-- a draw, its arguments pure -/
theorem te_drawP {Q : VK} {n : Int} (hX : In P w K mg base k X) (hgd : X.A.guards = some []) (F : EFn P w K mg base 2 "_law_draw" (spDraw T)) (g : GlAt X "_law_draw") (hj : 2 ≤ k) (h1 : Ev K X Γ Φ a (.r (.ref m))) (h2 : Ev K X Γ Φ b (.d (.int n))) (hs : Slots K σ H Γ) (hp : Φ.p H)
    (hm : MAt m lc lg N H) (hN : N < 2 ^ 50) (n0 : 0 < n) (n1 : n < 2 ^ 20) (kk : ∀ (i : Int) (H' : Hp), 0 ≤ i → i < n → Fr T [m, lc, lg] H H' → MAt m lc lg (N + 1) H' → Q (.int i) H')
    (s1 : starEach [a, b] X.env = (false, eval a X.env) :: starEach [b] X.env := by rfl) (s2 : starEach [b] X.env = (false, eval b X.env) :: starEach [] X.env := by rfl)
    (hpl : (backTo pos (starEach [b] X.env)).any (·.1) = false := by rfl) : tE X (.Call (.Name "_law_draw" p) [a, b] [] pos) σ H Q :=
  te_draw (lc := lc) (lg := lg) (N := N) hX hgd F g hj (h1.go hs hp fun v H1 e1 q1 => h2.go (hs.up e1) (Φ.up e1 hp) fun u H2 e2 q2 => ⟨q1, n, dp_int q2, hm.up (e1.trans e2), hN, n0, n1, fun i H' i0 i1 f m' => kk i H' i0 i1 ((Fr.same (e1.trans e2)).trans f) m'⟩) s1 s2 hpl
/-! ### _law_of -/
def spOf (T : List (Addr × Str)) : Sp := fun vs H Q _ => ∃ (m lc lg l : Addr) (N : Nat) (xs : List V), vs = [.ref m, .ref l] ∧ MAt m lc lg N H ∧ N < 2 ^ 50 ∧ H l = some (.lst xs) ∧ l ∉ [m, lc, lg] ∧ 0 < xs.length ∧ xs.length < 1000 ∧
  ∀ (i : Nat) (v : V) (H' : Hp), xs[i]? = some v → Fr T [m, lc, lg] H H' → MAt m lc lg (N + 1) H' → Q v H'
theorem f_l_of (tx : Tx mg) (F : FnF K mg "_law_of" s_l_of ["_law_m", "_law_some"]) (Fd : EFn P w K mg base 2 "_law_draw" (spDraw T)) : EFn P w K mg base 3 "_law_of" (spOf T) := by
  refine efn_of F sc_l_of (fun vs H Q E h => by obtain ⟨_, _, _, _, _, _, rfl, _⟩ := h; rfl) (fun X hX hgd hn vs H Q h => ?_) (fun vs H Q E h => h)
  have Vr := fun (j : Nat) {i : Nat} {x : Str} e => (tab_loc tb_l_of hn (i := i) (x := x) j e).1
  have G := fun (j : Nat) {x : Str} e => tab_glo tb_l_of hn (x := x) j e
  obtain ⟨m, lc, lg, l, N, xs, rfl, hm, hN, hl, nl', x0, x1, kk⟩ := h
  have s0 : Slots K (L2.start n_l_of [.ref m, .ref l]) H (startS n_l_of [.r (.ref m), .r (.ref l)]) := startS_slots (.cons rfl (.cons rfl .nil))
  refine tb_retE (PEto (pe_ix ix_list pe_sem pe_sem (by exact fun _ _ => rfl)) ?_)
  refine (ev_var (Vr 1 rfl) rfl).goT s0 fun u H1 e1 h1 => ?_
  refine te_draw (m := m) (lc := lc) (lg := lg) (N := N) hX hgd Fd (G 0 rfl) (Nat.le_refl _) ((ev_var (Vr 0 rfl) rfl).goT (s0.up e1) fun v H2 e2 h2 => ?_)
  refine PEto (pe_callB call_len_seq (G 1 rfl).1 (by rw [hX.mg]; exact tx.len) PySem.boot_len pa_sem (G 1 rfl).2.2 (G 1 rfl).2.1 rfl rfl) (ta_cons ((ev_var (Vr 1 rfl) rfl).goT (s0.up (e1.trans e2)) fun z H3 e3 h3 => ta_nil ?_))
  have e := (e1.trans e2).trans e3
  cases (show z = V.ref l from h3)
  refine ⟨l, xs, rfl, .inl (SqL.of (e _ _ hl)), h2, (xs.length : Int), rfl, hm.up e, hN, by omega, by omega, fun i H' i0 i1 f m' => ?_⟩
  cases (show u = V.ref l from h1)
  have hi : i.toNat < xs.length := by omega
  refine ⟨l, xs, i, xs[i.toNat], rfl, rfl, SqL.of (f.at (e _ _ hl) nl'), ?_, kk i.toNat _ H' (by simp [hi]) ((Fr.same e).trans f) m'⟩
  unfold atI
  rw [show ixN xs.length i = some i.toNat from by unfold ixN; rw [if_pos i0, if_pos i1]]
  simp [hi]
/-! ### names side by side -/
theorem sw_env (ts : List Expr) (v : Expr) (env : Env) : swappedStores ts v env = swappedStores ts v (envOfC "" env.scope 0 0 .none) := rfl
theorem sw_by {ts : List Expr} {v : Expr} {N : List Str} {sc : Scope} {r : Option (List Str)} (hn : Nm N sc X) (h : swappedStores ts v (envOfC "" sc 0 0 .none) = pure r) : swappedStores ts v X.env = pure r := by
  rw [sw_env, hn.sc]; exact h
/-- x, y = a, b -/
theorem tb_par {N : List Str} {sc : Scope} {i j : Nat} {x y : Str} {px py pt : Pos} {kt k2 : Nat} {pt2 : Pos} (hX : In P w K mg base k X) (hn : Nm N sc X) (hi : N[i]? = some x) (hj : N[j]? = some y) (hij : i ≠ j) (hx : sc.names.lookup x = some .local) (hy : sc.names.lookup y = some .local)
    (hw : swappedStores [.Tuple [.Name x px, .Name y py] kt pt] (.Tuple [a, b] k2 pt2) (envOfC "" sc 0 0 .none) = pure (some [x, y])) (h : tE X a σ H fun v H1 => tE X b σ H1 fun u H2 => tB X sts D ((σ.set i (some v)).set j (some u)) H2)
    (s1 : starEach [a, b] X.env = (false, eval a X.env) :: starEach [b] X.env := by rfl) (s2 : starEach [b] X.env = (false, eval b X.env) :: starEach [] X.env := by rfl) :
    tB X (.Assign [.Tuple [.Name x px, .Name y py] kt pt] (.Tuple [a, b] k2 pt2) pos :: sts) D σ H :=
  tb_cons (PSto (ps_par hX.calm hX.nd (hn.at_ hi) (hn.at_ hj) hij (hn.loc hx) (hn.loc hy) pa_sem (sw_by hn hw)) (ta_cons (tE_mono h fun v H1 h1 => ta_cons (tE_mono h1 fun u H2 h2 => ta_nil ⟨v, u, rfl, h2⟩) s2) s1))
/-! ### _law_fares -/
theorem asc_snoc : ∀ {l : List Int} {x : Int}, asc l = true → (∀ y ∈ l, y < x) → asc (l ++ [x]) = true
  | [], _, _, _ => rfl
  | [a], x, _, h => by
    show (decide (a < x) && true) = true
    rw [decide_eq_true (h a List.mem_cons_self)]; rfl
  | a :: b :: r, x, h1, h2 => by
    have h1' : (decide (a < b) && asc (b :: r)) = true := h1
    obtain ⟨q1, q2⟩ := Bool.and_eq_true_iff.mp h1'
    show (decide (a < b) && asc (b :: (r ++ [x]))) = true
    rw [q1, Bool.true_and]
    exact asc_snoc (l := b :: r) q2 fun y hy => h2 y (List.mem_cons_of_mem _ hy)
def spFares (K : PySem.W.Frag) (T : List (Addr × Str)) : Sp := fun vs H Q _ => ∃ (m lc lg : Addr) (N : Nat) (n : Int), vs = [.ref m, .int n] ∧ MAt m lc lg N H ∧ N < 2 ^ 49 ∧ 1 ≤ n ∧ n ≤ 4 ∧
  ∀ (l : List Int) (v : V) (H' : Hp), 1 ≤ l.length → (l.length : Int) ≤ n → (∀ x ∈ l, 1 ≤ x ∧ x ≤ 99) → (l.length = 1 → ∀ x ∈ l, x ≤ 24) → asc l = true → Dp K H' v (iT l) → Fr T [m, lc, lg] H H' → MAt m lc lg (N + 9) H' → Q v H'
theorem f_l_fares (tx : Tx mg) (F : FnF K mg "_law_fares" s_l_fares ["_law_m", "_law_most"]) (Fd : EFn P w K mg base 2 "_law_draw" (spDraw T)) : EFn P w K mg base 3 "_law_fares" (spFares K T) := by
  refine efn_of F sc_l_fares (fun vs H Q E h => by obtain ⟨_, _, _, _, _, rfl, _⟩ := h; rfl) (fun X hX hgd hn vs H Q h => ?_) (fun vs H Q E h => h)
  have Vr := fun (j : Nat) {i : Nat} {x : Str} e => (tab_loc tb_l_fares hn (i := i) (x := x) j e).1
  have L := fun (j : Nat) {i : Nat} {x : Str} e => (tab_loc tb_l_fares hn (i := i) (x := x) j e).2
  have G := fun (j : Nat) {x : Str} e => tab_glo tb_l_fares hn (x := x) j e
  obtain ⟨m, lc, lg, N, n, rfl, hm, hN, n0, n1, kk⟩ := h
  have s0 : Slots K (L2.start n_l_fares [.ref m, .int n]) H (startS n_l_fares [.r (.ref m), .d (.int n)]) := startS_slots (.cons rfl (.cons (.int n) .nil))
  refine tb_unp ?_ rfl (sw_by hn rfl)
  refine (ev_tup (ds := [.tuple [], .int 0]) (eva_cons (ev_tup (ds := []) eva_nil (by decide)) (eva_cons ev_int eva_nil)) (by simp)).goT s0 fun v H1 e1 h1 => ?_
  refine (tg_tup (own := [2, 3]) hX (tgs_cons (tg_name hX.nd (L 2 rfl) (by simp)) (tgs_cons (tg_name hX.nd (L 3 rfl) (by simp)) tgs_nil)) rfl) _ H1 v _ (s0.up e1) h1 fun σ1 s1 _ _ => ?_
  refine tb_forR (i := 4) hX (G 0 rfl) tx.range hn.pas (L 4 rfl) (fun i σ H' => ∃ (l : List Int) (z : Int), l.length = i ∧ asc l = true ∧ (∀ x ∈ l, 1 ≤ x ∧ x ≤ z) ∧ 0 ≤ z ∧ z ≤ 24 * (i : Int) ∧ Fr T [m, lc, lg] H H' ∧ MAt m lc lg (N + 1 + 2 * i) H' ∧ ∃ x4, Slots K σ H' [some (.r (.ref m)), some (.d (.int n)), some (.d (iT l)), some (.d (.int z)), x4]) ?_
  refine te_add (ev_int.goT s1 fun u H2 e2 h2 => te_drawP (Φ := MP.top) (m := m) (lc := lc) (lg := lg) (N := N) (n := n) hX hgd Fd (G 1 rfl) (Nat.le_refl _) (ev_var (Vr 0 rfl) rfl) (ev_var (Vr 1 rfl) rfl) (s1.up e2) trivial (hm.up (e1.trans e2)) (by omega) (by omega) (by omega) fun i H3 i0 i1 f m' => ?_)
  refine ⟨1, i, dp_int h2, rfl, (1 + i).toNat, congrArg V.int (show 1 + i = (((1 + i).toNat : Nat) : Int) by omega), by omega, ⟨[], 0, rfl, rfl, fun x hx => (nomatch hx), Int.le_refl _, by omega, (Fr.same (e1.trans e2)).trans f, m'.mono (by omega), none, (s1.up e2).fr f (nlG_r (nlG_d (nl_int _) (nlG_d (nl_tup rfl) (nlG_d (nl_int _) (nlG_none nlG_nil)))))⟩, ?_, ?_⟩
  · intro j hj σ2 H4 iv
    obtain ⟨l, z, l1, l2, l3, z0, z1, fr, mj, x4, sj⟩ := iv
    have sj' : Slots K (σ2.set 4 (some (.int (j : Int)))) H4 [some (.r (.ref m)), some (.d (.int n)), some (.d (iT l)), some (.d (.int z)), some (.d (.int (j : Int)))] := sj.set (s := .d (.int (j : Int))) (.int _)
    refine tb_set hX (L 3 rfl) (te_add ((ev_add (ev_var (Vr 3 rfl) rfl) ev_int).goT sj' fun u H5 e5 h5 => ?_))
    refine te_draw (m := m) (lc := lc) (lg := lg) (N := N + 1 + 2 * j + 1) hX hgd Fd (G 1 rfl) (Nat.le_refl _) ((ev_var (Vr 0 rfl) rfl).goT (sj'.up e5) fun v' H6 e6 h6 => ?_)
    refine PEto (pe_ix ix_list pe_sem pe_sem (by exact fun _ _ => rfl)) (te_lst ?_)
    refine ta_cons (ev_int.goT (sj'.up (e5.trans e6)) fun c1 H7 e7 h7 => ta_cons (ev_int.goT (sj'.up ((e5.trans e6).trans e7)) fun c2 H8 e8 h8 => ta_nil ⟨by simp, fun q hq => ?_⟩))
    have e58 := ((e5.trans e6).trans e7).trans e8
    have eq9 := same_new (o := .lst [c1, c2]) hq
    have mq := (mj.up e58).up eq9
    refine te_drawP (Φ := MP.top) (m := m) (lc := lc) (lg := lg) (N := N + 1 + 2 * j) (n := 2) hX hgd Fd (G 1 rfl) (Nat.le_refl _) (ev_var (Vr 0 rfl) rfl) ev_int ((sj'.up e58).up eq9) trivial mq (by omega) (by omega) (by omega) fun b H10 b0 b1 fb mb => ?_
    have qn : q ∉ [m, lc, lg] := fun hmem => by
      obtain ⟨_, _, _, mv, _⟩ := mj.up e58
      simp only [List.mem_cons, List.not_mem_nil, or_false] at hmem
      rcases hmem with z | z | z <;> subst z
      · rw [mv.m] at hq; cases hq
      · rw [mv.c] at hq; cases hq
      · rw [mv.g] at hq; cases hq
    have hl10 : H10 q = some (.lst [c1, c2]) := fb.at upd_same qn
    have hc : ∃ cc : Int, atI [c1, c2] b = some (.int cc) ∧ 0 < cc ∧ cc ≤ 24 := by
      rw [dp_int h7, dp_int h8]
      rcases (by omega : b = 0 ∨ b = 1) with z | z <;> subst z
      · exact ⟨3, rfl, by omega, by omega⟩
      · exact ⟨24, rfl, by omega, by omega⟩
    obtain ⟨cc, hcc, cc0, cc1⟩ := hc
    refine ⟨q, [c1, c2], b, .int cc, rfl, rfl, SqL.of hl10, hcc, h6, cc, rfl, mb, by omega, cc0, by omega, fun d H11 d0 d1 fd md => ⟨z + 1, d, dp_int h5, rfl, ?_⟩⟩
    have f11 : Fr T [m, lc, lg] H4 H11 := (Fr.same (e58.trans eq9)).trans (fb.trans fd)
    have s11 : Slots K ((σ2.set 4 (some (.int (j : Int)))).set 3 (some (.int (z + 1 + d)))) H11 [some (.r (.ref m)), some (.d (.int n)), some (.d (iT l)), some (.d (.int (z + 1 + d))), some (.d (.int (j : Int)))] :=
      (sj'.fr f11 (nlG_r (nlG_d (nl_int _) (nlG_d (nl_iT _) (nlG_d (nl_int _) (nlG_d (nl_int _) nlG_nil)))))).set (s := .d (.int (z + 1 + d))) (.int _)
    refine tb_pure (Φ := MP.top) (runS_set hX (L 2 rfl) (ev_cat (xs := l.map .int) (ys := [.int (z + 1 + d)]) hX (ev_var (Vr 2 rfl) rfl) (ev_tup (eva_cons (ev_var (Vr 3 rfl) rfl) eva_nil) (by simp)) (by simp; omega))) s11 trivial fun σ12 H12 e12 s12 => tb_nil ?_
    refine ⟨l ++ [z + 1 + d], z + 1 + d, by simp [l1], asc_snoc l2 fun y hy => by have := l3 y hy; omega, fun x hx => ?_, by omega, by omega, fr.trans (f11.trans (Fr.same e12)), (md.up e12).mono (by omega), some (.d (.int (j : Int))), s12.fit (by simp [iT])⟩
    rcases List.mem_append.mp hx with hx | hx
    · have := l3 x hx; omega
    · have := List.mem_singleton.mp hx; omega
  · intro σ2 H4 iv
    obtain ⟨l, z, l1, l2, l3, z0, z1, fr, mj, x4, sj⟩ := iv
    refine tb_ret (Φ := MP.top) (ev_var (Vr 2 rfl) rfl) sj trivial fun v' H5 e5 h5 => ?_
    exact kk l v' H5 (by omega) (by omega) (fun x hx => by have := l3 x hx; omega) (fun q x hx => by have := l3 x hx; rw [l1] at q; rw [q] at z1; omega) l2 h5 (fr.trans (Fr.same e5)) ((mj.up e5).mono (by omega))
end
end BL
end

section
set_option Elab.async false
set_option linter.all false
set_option maxRecDepth 100000
set_option maxHeartbeats 4000000
/-! BLg: halls and rules that are drawn, continued. -/
namespace BL
open PySem PySem.Spec PyProof.Rows L2
theorem srt_asc : ∀ {l : List Int}, l.Pairwise (· ≤ ·) → ascL l = true
  | [], _ => rfl
  | [_], _ => rfl
  | a :: b :: r, h => by
    cases h with
    | cons h1 h2 =>
      show (decide (a ≤ b) && ascL (b :: r)) = true
      rw [decide_eq_true (h1 b List.mem_cons_self), srt_asc h2]; rfl
section
variable {P : Program} {w : World} {K : PySem.W.Frag} {mg : Str → Option Value} {base : Heap} {k : Nat}
variable {X : Cx} {Γ Γ' : Gm} {Φ : MP} {a b c e tg it : Expr} {es : List Expr} {pos p : Pos} {s t : Sv} {ss : List Sv} {σ : L2.St} {H : Hp} {D : Ends} {st : Stmt} {sts bd el : List Stmt} {T : List (Addr × Str)} {m lc lg : Addr} {N : Nat}
theorem MAt.fresh {q : Addr} (h : MAt m lc lg N H) (hq : H q = none) : q ∉ [m, lc, lg] := fun hmem => by
  obtain ⟨_, _, _, mv, _⟩ := h
  simp only [List.mem_cons, List.not_mem_nil, or_false] at hmem
  rcases hmem with z | z | z <;> subst z
  · rw [mv.m] at hq; cases hq
  · rw [mv.c] at hq; cases hq
  · rw [mv.g] at hq; cases hq
def spHall (K : PySem.W.Frag) (T : List (Addr × Str)) : Sp := fun vs H Q _ => ∃ (m lc lg : Addr) (N : Nat), vs = [.ref m, .int 6, .int 4] ∧ MAt m lc lg N H ∧ N < 2 ^ 48 ∧
  ∀ (h : Hl) (v : V) (H' : Hp), h.Ok → (h.fs.length = 1 → ∀ x ∈ h.fs, x ≤ 24) → Dp K H' v h.d → Fr T [m, lc, lg] H H' → MAt m lc lg (N + 10) H' → Q v H'
theorem f_l_hall (tx : Tx mg) (F : FnF K mg "_law_hall" s_l_hall ["_law_m", "_law_seats", "_law_fares_here"]) (Fd : EFn P w K mg base 2 "_law_draw" (spDraw T)) (Ff : EFn P w K mg base 3 "_law_fares" (spFares K T)) : EFn P w K mg base 4 "_law_hall" (spHall K T) := by
  refine efn_of F sc_l_hall (fun vs H Q E h => by obtain ⟨_, _, _, _, rfl, _⟩ := h; rfl) (fun X hX hgd hn vs H Q h => ?_) (fun vs H Q E h => h)
  have Vr := fun (j : Nat) {i : Nat} {x : Str} e => (tab_loc tb_l_hall hn (i := i) (x := x) j e).1
  have G := fun (j : Nat) {x : Str} e => tab_glo tb_l_hall hn (x := x) j e
  obtain ⟨m, lc, lg, N, rfl, hm, hN, kk⟩ := h
  have s0 : Slots K (L2.start n_l_hall [.ref m, .int 6, .int 4]) H (startS n_l_hall [.r (.ref m), .d (.int 6), .d (.int 4)]) := startS_slots (.cons rfl (.cons (.int 6) (.cons (.int 4) .nil)))
  have n0 : nlG (startS n_l_hall [.r (.ref m), .d (.int 6), .d (.int 4)]) := nlG_r (nlG_d (nl_int _) (nlG_d (nl_int _) nlG_nil))
  refine tb_retE (te_tup (ta_cons (te_add (ev_int.goT s0 fun u H1 e1 h1 => te_drawP (Φ := MP.top) (m := m) (lc := lc) (lg := lg) (N := N) (n := 6) hX hgd Fd (G 0 rfl) (by decide) (ev_var (Vr 0 rfl) rfl) (ev_var (Vr 1 rfl) rfl) (s0.up e1) trivial (hm.up e1) (by omega) (by omega) (by omega) fun i H2 i0 i1 f m' => ?_))))
  refine ⟨1, i, dp_int h1, rfl, ?_⟩
  have s2 := (s0.up e1).fr f n0
  refine ta_cons (te_callG hX hgd Ff (G 1 rfl) (by decide) (ta_cons ((ev_var (Vr 0 rfl) rfl).goT s2 fun v H3 e3 h3 => ta_cons ((ev_var (Vr 2 rfl) rfl).goT (s2.up e3) fun v' H4 e4 h4 => ta_nil ?_))))
  refine ⟨m, lc, lg, N + 1, 4, ?_, (m'.up e3).up e4, by omega, by omega, by omega, fun l vl H5 l1 l2 l3 l3s l4 dl f5 m5 => ta_nil ⟨by simp, fun q hq => ?_⟩⟩
  · rw [show v = V.ref m from h3, dp_int h4]
  · refine kk ⟨1 + i, l⟩ (.ref q) _ ⟨by show 1 ≤ 1 + i; omega, by show 1 + i ≤ 6; omega, l1, by show l.length ≤ 4; omega, l3, l4⟩ l3s ?_ ((Fr.same e1).trans (f.trans ((Fr.same (e3.trans e4)).trans (f5.trans (Fr.same (same_new hq)))))) ((m5.up (same_new hq)).mono (by omega))
    exact .tup (SqT.of upd_same) (.cons (.int _) (.cons (dp_up (same_new hq) dl) .nil))
/-- x = [..], its parts with effects -/
theorem tb_setLcE {N : List Str} {sc scope : Scope} (own : List (Str × Nat)) (os vs : List (Nat × Str)) (gs : List Str) {ifs : List Expr} {elt : Expr} {i : Nat} {x : Str} {px lpos : Pos} (hX : In P w K mg base k X) (hn : Nm N sc X) (BT : btabB N sc scope own os vs gs = true) (hN : X.N[i]? = some x) (hl : X.env.scope.names.lookup x = some .local)
    (hw : swB sc scope x px lpos = true) (h : (∀ X', Bk X scope X' → BN os vs gs X' ∧ In P w K mg base k X' ∧ X'.A = X.A) → tLc (tI X tg it) (gB X scope tg) (ttB X scope ifs) (teB X scope elt) (own.map (·.2)) σ H fun v H' => tB X sts D (σ.set i (some v)) H')
    (hf : ∀ x, foldedSetIterable it X.env x = pure x := by intro _; rfl) : tB X (.Assign [.Name x px] (.ListComp elt [⟨tg, it, ifs, 0⟩] scope lpos) pos :: sts) D σ H :=
  tb_cons (PSto (ps_setLc hX.calm hX.nd hN hl (sw_of hn.sc hw) pi_sem (btab_ok BT hn) gB_ok ttB_ok teB_ok hf) (h fun X' hb => ⟨⟨fun j _ _ e => btab_own BT hn hb j e, fun j _ _ e => btab_var BT hn hb j e, fun j _ e => btab_glo BT hn hb j e⟩, hb.in_ hX, by obtain ⟨_, _, _, _, _, rfl⟩ := hb; rfl⟩))
/-! ### _law_plain -/
def spPlain (K : PySem.W.Frag) (T : List (Addr × Str)) : Sp := fun vs H Q _ => ∃ (m lc lg : Addr) (N : Nat) (h : Hl) (vh : V), vs = [.ref m, vh] ∧ MAt m lc lg N H ∧ N < 2 ^ 48 ∧ h.Ok ∧ Dp K H vh h.d ∧
  ∀ (x : Wd) (l : List Int) (v : V) (H' : Hp), (Rl.plain x l).In h → Dp K H' v (Rl.plain x l).d → Fr T [m, lc, lg] H H' → MAt m lc lg (N + 5) H' → Q v H'
theorem f_l_plain (tx : Tx mg) (F : FnF K mg "_law_plain" s_l_plain ["_law_m", "_law_hall_so"]) (Fd : EFn P w K mg base 2 "_law_draw" (spDraw T)) (Fo : EFn P w K mg base 3 "_law_of" (spOf T)) : EFn P w K mg base 4 "_law_plain" (spPlain K T) := by
  refine efn_of F sc_l_plain (fun vs H Q E h => by obtain ⟨_, _, _, _, _, _, rfl, _⟩ := h; rfl) (fun X hX hgd hn vs H Q h => ?_) (fun vs H Q E h => h)
  have Vr := fun (j : Nat) {i : Nat} {x : Str} e => (tab_loc tb_l_plain hn (i := i) (x := x) j e).1
  have L := fun (j : Nat) {i : Nat} {x : Str} e => (tab_loc tb_l_plain hn (i := i) (x := x) j e).2
  have G := fun (j : Nat) {x : Str} e => tab_glo tb_l_plain hn (x := x) j e
  obtain ⟨m, lc, lg, N, h, vh, rfl, hm, hN, ok, dh, kk⟩ := h
  have s0 : Slots K (L2.start n_l_plain [.ref m, vh]) H (startS n_l_plain [.r (.ref m), .d h.d]) := startS_slots (.cons rfl (.cons dh .nil))
  have nh : nl h.d = true := nl_tup (by unfold nls nls nls; rw [nl_int, nl_iT]; rfl)
  refine tb_set hX (L 2 rfl) (te_callG hX hgd Fo (G 0 rfl) (by decide) (ta_cons ((ev_var (Vr 0 rfl) rfl).goT s0 fun u H1 e1 h1 => ta_cons (te_lst ?_))))
  refine ta_cons (ev_str.goT (s0.up e1) fun c1 H2 e2 h2 => ta_cons (ev_str.goT (s0.up (e1.trans e2)) fun c2 H3 e3 h3 => ta_cons (ev_str.goT (s0.up ((e1.trans e2).trans e3)) fun c3 H4 e4 h4 => ta_cons (ev_str.goT (s0.up (((e1.trans e2).trans e3).trans e4)) fun c4 H5 e5 h5 => ta_nil ⟨by simp, fun q hq => ta_nil ?_⟩))))
  have e15 := (((e1.trans e2).trans e3).trans e4).trans e5
  rw [show u = V.ref m from h1, dp_str h2, dp_str h3, dp_str h4, dp_str h5]
  have eq := same_new (o := .lst [.str "nested", .str "nested", .str "apart", .str "kept"]) hq
  refine ⟨m, lc, lg, q, N, _, rfl, (hm.up e15).up eq, by omega, upd_same, (hm.up e15).fresh hq, by simp, by simp, fun i v H6 hv f6 m6 => ?_⟩
  obtain ⟨x, rfl⟩ : ∃ x : Wd, v = .str x.nm := by
    rcases i with _ | _ | _ | _ | i
    · exact ⟨.nested, (Option.some.inj hv).symm⟩
    · exact ⟨.nested, (Option.some.inj hv).symm⟩
    · exact ⟨.apart, (Option.some.inj hv).symm⟩
    · exact ⟨.kept, (Option.some.inj hv).symm⟩
    · simp at hv
  have f06 : Fr T [m, lc, lg] H H6 := (Fr.same (e15.trans eq)).trans f6
  have s6 : Slots K ((L2.start n_l_plain [.ref m, vh]).set 2 (some (.str x.nm))) H6 [some (.r (.ref m)), some (.d h.d), some (.d (.str x.nm)), none, none] :=
    (s0.fr f06 (nlG_r (nlG_d nh (nlG_none (nlG_none (nlG_none nlG_nil)))))).set (s := .d (.str x.nm)) (.str _)
  -- the limits
  refine tb_setLcE [("_law_k", 4)] [(4, "_law_k")] [(0, "_law_m"), (1, "_law_hall_so")] ["_law_draw"] hX hn (by decide +kernel) (hn.at_ (i := 3) rfl) (hn.loc rfl) (by decide +kernel) fun BB => ?_
  refine PIto (pi_tup pe_sem) (Ev.goT (ev_ixT hX (ev_var (Vr 1 rfl) rfl) ev_int rfl) s6 fun v H7 e7 h7 => ?_)
  obtain ⟨ta, xs, rfl, tq, tr⟩ := dp_tup h7
  rw [hX.K]
  refine ⟨ta, rfl, ⟨xs, tq⟩, fun D hD => ?_⟩
  have hxl : xs.length = h.fs.length := by rw [dps_len tr, List.length_map]
  have m7 : MAt m lc lg (N + 1) H7 := m6.up e7
  refine lc_it (walk_tup (K := K) (a := ta) (xs := xs)) (fun i H' => Fr T [m, lc, lg] H7 H' ∧ MAt m lc lg (N + 1 + i) H' ∧ ∃ ns : List Int, H' D = some (.lst (ns.map V.int)) ∧ ns.length = i ∧ ∀ z ∈ ns, 0 ≤ z ∧ z ≤ h.s)
    ⟨Fr.same (same_new hD), (m7.up (same_new hD)).mono (by omega), [], upd_same, rfl, fun z hz => (nomatch hz)⟩ (fun i H' _ p => tupS_t p.1.tup tq) ?_ ?_
  · intro i y H8 H9 hi p yy X' hb
    obtain ⟨rfl, hy⟩ := yy
    obtain ⟨f8, m8, ns, hns, nsl, nsb⟩ := p
    obtain ⟨B, hX', _⟩ := BB X' hb
    obtain ⟨dk, dk1, dk2⟩ := dps_getV tr hy
    have sw : Slots K (L2.wipe ((L2.start n_l_plain [.ref m, vh]).set 2 (some (.str x.nm))) [4]) H9 [some (.r (.ref m)), some (.d h.d), some (.d (.str x.nm)), none, none] :=
      ((s6.up e7).fr f8 (nlG_r (nlG_d nh (nlG_d (nl_str _) (nlG_none (nlG_none nlG_nil)))))).wipe [4]
    have dki : ∃ zi : Int, dk = .int zi := by
      rw [List.getElem?_map] at dk1
      cases q1 : h.fs[i]? with
      | none => rw [q1] at dk1; cases dk1
      | some zi => rw [q1] at dk1; exact ⟨zi, (Option.some.inj dk1).symm⟩
    obtain ⟨zi, rfl⟩ := dki
    refine (tg_name (own := [4]) hX'.nd (B.o 0 rfl).2 (by simp)) _ H9 y _ sw (dp_fr f8 (nl_int _) dk2) fun σ' sl' oth len => ⟨wipe_eq (by rw [len, wipe_length]) oth, fun X2 hb2 => PTsto pts_nil ?_⟩
    unfold tYes
    refine Eq.mpr (if_pos rfl) ?_
    intro X3 hb3
    obtain ⟨B3, hX3, hA3⟩ := BB X3 hb3
    have hgd3 : X3.A.guards = some [] := by rw [hA3]; exact hgd
    refine te_drawP (Φ := MP.top) (m := m) (lc := lc) (lg := lg) (N := N + 1 + i) (n := h.s + 1) hX3 hgd3 Fd (B3.g 0 rfl) (by decide) (ev_var (B3.v 0 rfl) rfl) (ev_add (ev_ixT hX3 (ev_var (B3.v 1 rfl) rfl) ev_int rfl) ev_int) sl' trivial m8 (by have := ok.n4; omega) (by have := ok.s1; omega) (by have := ok.s6; omega) fun z H10 z0 z1 f10 m10 => ?_
    have hDn := m7.fresh hD
    have hD10 := f10.at hns hDn
    have fu : Fr T [D] H10 (upd H10 D (.lst ((ns ++ [z]).map V.int))) := Fr.upd hD10 trivial (by simp)
    refine ⟨ns.map V.int, hD10, by rw [List.length_map, sizeLine_eq]; have := ok.n4; omega, ?_⟩
    rw [show ns.map V.int ++ [V.int z] = (ns ++ [z]).map V.int by simp]
    have hDn' : m ≠ D ∧ lc ≠ D ∧ lg ≠ D := by
      simp only [List.mem_cons, List.not_mem_nil, or_false, not_or] at hDn
      exact ⟨fun z => hDn.1 z.symm, fun z => hDn.2.1 z.symm, fun z => hDn.2.2 z.symm⟩
    refine ⟨⟨fun b o e q => fu.tup b o ((f8.trans f10).tup b o e q) q, fun b o e nb nt => ?_, fun hT => fu.tabs ((f8.trans f10).tabs hT)⟩, ?_, ns ++ [z], upd_same, by simp [nsl], fun y hy => ?_⟩
    · rw [upd_ne (ne_of_none e hD)]
      exact (f8.trans f10).keep b o e nb nt
    · exact (m10.mono (M := N + 1 + (i + 1)) (by omega)).fr fu (by simp [hDn'.1]) (by simp [hDn'.2.1]) (by simp [hDn'.2.2])
    · rcases List.mem_append.mp hy with hy | hy
      · exact nsb y hy
      · rw [List.mem_singleton.mp hy]; omega
  · intro H' p
    obtain ⟨f8, m8, ns, hns, nsl, nsb⟩ := p
    have sl : Slots K (((L2.start n_l_plain [.ref m, vh]).set 2 (some (.str x.nm))).set 3 (some (.ref D))) H' [some (.r (.ref m)), some (.d h.d), some (.d (.str x.nm)), some (.r (.ref D)), none] :=
      ((s6.up e7).fr f8 (nlG_r (nlG_d nh (nlG_d (nl_str _) (nlG_none (nlG_none nlG_nil)))))).set (s := .r (.ref D)) rfl
    have seen : ∀ {Γ : Gm} {p1 : Pos}, Γ[3]? = some (some (.r (.ref D))) → Ev K X Γ (MP.at_ D (.lst (ns.map V.int))) (.Name "_law_limits" p1) (.d (.list (ns.map .int))) := fun g => Ev.seeL (ev_var (Vr 3 rfl) g) fun H h => ⟨h, dps_of_ints ns⟩
    refine tb_ret (Φ := MP.at_ D (.lst (ns.map V.int))) (s := .d (Rl.plain x (if x = .nested then srt ns else ns)).d) (ev_tup (ds := [.str x.nm, iT (if x = .nested then srt ns else ns)]) (eva_cons (ev_var (Vr 2 rfl) rfl) (eva_cons (ev_tupleL hX (G 1 rfl) tx.tuple_ rfl (ev_if (evt_eqS (ev_var (Vr 2 rfl) rfl) ev_str) (fun z => Ev.to (ev_sorted hX (G 2 rfl) tx.sorted (seen rfl)) ?_) (fun z => Ev.to (seen rfl) ?_))) eva_nil)) (by simp)) sl hns fun v' H9 e9 h9 => ?_
    · rw [nm_ne] at z; rw [if_pos (of_decide_eq_true z)]
    · rw [nm_ne] at z; rw [if_neg (of_decide_eq_false z)]
    · have hnl : ns.length = h.fs.length := by omega
      refine kk x _ v' H9 ⟨⟨?_, ?_⟩, fun hx => ?_⟩ h9 (f06.trans ((Fr.same e7).trans (f8.trans (Fr.same e9)))) ((m8.up e9).mono (by have := ok.n4; omega))
      · split
        · rw [(srt_perm ns).length_eq]; exact hnl
        · exact hnl
      · intro y hy
        have hy' : y ∈ ns := by
          split at hy
          · exact (srt_perm ns).mem_iff.mp hy
          · exact hy
        exact nsb y hy'
      · rw [if_pos hx]; exact srt_asc (srt_sorted ns)
/-! ### _law_rule -/
def spRule (K : PySem.W.Frag) (T : List (Addr × Str)) : Sp := fun vs H Q _ => ∃ (m lc lg : Addr) (N : Nat) (h : Hl) (vh : V), vs = [.ref m, vh] ∧ MAt m lc lg N H ∧ N < 2 ^ 47 ∧ h.Ok ∧ Dp K H vh h.d ∧
  ∀ (r : Rl) (v : V) (H' : Hp), r.Ok h → Dp K H' v r.d → Fr T [m, lc, lg] H H' → MAt m lc lg (N + 20) H' → Q v H'
theorem nl_rl : ∀ r : Rl, nl r.d = true
  | .plain x l => nl_tup (by unfold nls nls nls; rw [nl_str, nl_iT]; rfl)
  | .all a b => nl_tup (by unfold nls nls nls nls; rw [nl_str, nl_rl a, nl_rl b]; rfl)
  | .any a b => nl_tup (by unfold nls nls nls nls; rw [nl_str, nl_rl a, nl_rl b]; rfl)
  | .oust a f => nl_tup (by unfold nls nls nls nls; rw [nl_str, nl_rl a, nl_int]; rfl)
theorem nl_hl (h : Hl) : nl h.d = true := nl_tup (by unfold nls nls nls; rw [nl_int, nl_iT]; rfl)
theorem f_l_rule (tx : Tx mg) (F : FnF K mg "_law_rule" s_l_rule ["_law_m", "_law_hall_so"]) (Fd : EFn P w K mg base 2 "_law_draw" (spDraw T)) (Fo : EFn P w K mg base 3 "_law_of" (spOf T)) (Fp : EFn P w K mg base 4 "_law_plain" (spPlain K T)) : EFn P w K mg base 5 "_law_rule" (spRule K T) := by
  refine efn_of F sc_l_rule (fun vs H Q E h => by obtain ⟨_, _, _, _, _, _, rfl, _⟩ := h; rfl) (fun X hX hgd hn vs H Q h => ?_) (fun vs H Q E h => h)
  have Vr := fun (j : Nat) {i : Nat} {x : Str} e => (tab_loc tb_l_rule hn (i := i) (x := x) j e).1
  have L := fun (j : Nat) {i : Nat} {x : Str} e => (tab_loc tb_l_rule hn (i := i) (x := x) j e).2
  have G := fun (j : Nat) {x : Str} e => tab_glo tb_l_rule hn (x := x) j e
  obtain ⟨m, lc, lg, N, h, vh, rfl, hm, hN, ok, dh, kk⟩ := h
  have s0 : Slots K (L2.start n_l_rule [.ref m, vh]) H (startS n_l_rule [.r (.ref m), .d h.d]) := startS_slots (.cons rfl (.cons dh .nil))
  have nG : ∀ {o2 o4 : Option PyData} {x3 : Option Int}, (∀ d, o2 = some d → nl d = true) → (∀ d, o4 = some d → nl d = true) → nlG [some (.r (.ref m)), some (.d h.d), o2.map .d, x3.map fun z => .d (.int z), o4.map .d] := fun {o2 o4 x3} h2 h4 => nlG_r (nlG_d (nl_hl h) (by
    have t4 : nlG [o4.map Sv.d] := by
      cases o4 with
      | none => exact nlG_none nlG_nil
      | some d => exact nlG_d (h4 d rfl) nlG_nil
    have t3 : nlG [x3.map fun z => Sv.d (.int z), o4.map Sv.d] := by
      cases x3 with
      | none => exact nlG_none t4
      | some z => exact nlG_d (nl_int z) t4
    cases o2 with
    | none => exact nlG_none t3
    | some d => exact nlG_d (h2 d rfl) t3))
  -- a plain word
  have plain : ∀ {σ : L2.St} {H : Hp} {Γ : Gm} {N : Nat} {p1 p2 p3 p4 : Pos} {Q : VK}, Slots K σ H Γ → Γ[0]? = some (some (.r (.ref m))) → Γ[1]? = some (some (.d h.d)) → MAt m lc lg N H → N < 2 ^ 48 →
      (∀ (x : Wd) (l : List Int) (v : V) (H' : Hp), (Rl.plain x l).In h → Dp K H' v (Rl.plain x l).d → Fr T [m, lc, lg] H H' → MAt m lc lg (N + 5) H' → Q v H') → tE X (.Call (.Name "_law_plain" p1) [.Name "_law_m" p2, .Name "_law_hall_so" p3] [] p4) σ H Q := fun {σ H Γ N p1 p2 p3 p4 Q} sl g0 g1 hm hN kq =>
    te_callG hX hgd Fp (G 0 rfl) (Nat.le_refl _) (ta_cons ((ev_var (Vr 0 rfl) g0).goT sl fun v H3 e3 h3 => ta_cons ((ev_var (Vr 1 rfl) g1).goT (sl.up e3) fun v' H4 e4 h4 => ta_nil (by
      refine ⟨m, lc, lg, N, h, v', by rw [show v = V.ref m from h3], (hm.up e3).up e4, hN, ok, h4, fun x l v H' a b f c => kq x l v H' a b ((Fr.same (e3.trans e4)).trans f) c⟩))))
  refine tb_set hX (L 2 rfl) (plain s0 rfl rfl hm (by omega) fun x l v H1 hin hd f1 m1 => ?_)
  have s1 : Slots K ((L2.start n_l_rule [.ref m, vh]).set 2 (some v)) H1 [some (.r (.ref m)), some (.d h.d), some (.d (Rl.plain x l).d), none, none] := (s0.fr f1 (nG (o2 := none) (o4 := none) (x3 := none) (fun d z => nomatch z) (fun d z => nomatch z))).set (s := .d (Rl.plain x l).d) hd
  refine tb_forR (i := 3) hX (G 1 rfl) tx.range hn.pas (L 3 rfl) (fun i σ H' => ∃ (r : Rl) (x3 : Option Int) (x4 : Option PyData), (∀ d, x4 = some d → nl d = true) ∧ r.In h ∧ r.words ≤ 1 + 2 * i ∧ r.deep ≤ i ∧ Fr T [m, lc, lg] H H' ∧ MAt m lc lg (N + 6 + 6 * i) H' ∧ Slots K σ H' [some (.r (.ref m)), some (.d h.d), some (.d r.d), x3.map fun z => .d (.int z), x4.map .d]) ?_
  refine te_drawP (Φ := MP.top) (m := m) (lc := lc) (lg := lg) (N := N + 5) (n := 3) hX hgd Fd (G 2 rfl) (by decide) (ev_var (Vr 0 rfl) rfl) ev_int s1 trivial m1 (by omega) (by omega) (by omega) fun i H2 i0 i1 f2 m2 => ?_
  refine ⟨i.toNat, congrArg V.int (by omega), by omega, ⟨.plain x l, none, none, fun d z => (nomatch z), hin, by simp [Rl.words], by simp [Rl.deep], f1.trans f2, m2.mono (by omega), s1.fr f2 (nG (o2 := some _) (o4 := none) (x3 := none) (fun d z => by cases z; exact nl_rl _) (fun d z => nomatch z))⟩, ?_, ?_⟩
  · intro j hj σ2 H3 iv
    obtain ⟨r, x3, x4, x4n, rin, rw_, rd, f3, m3, s3⟩ := iv
    have s3' : Slots K (σ2.set 3 (some (.int (j : Int)))) H3 [some (.r (.ref m)), some (.d h.d), some (.d r.d), (some (j : Int)).map fun z => .d (.int z), x4.map .d] := s3.set (s := .d (.int (j : Int))) (.int _)
    refine tb_set hX (L 4 rfl) (plain s3' rfl rfl m3 (by omega) fun y ly u H4 hin4 hd4 f4 m4 => ?_)
    have s4 : Slots K ((σ2.set 3 (some (.int (j : Int)))).set 4 (some u)) H4 [some (.r (.ref m)), some (.d h.d), some (.d r.d), (some (j : Int)).map fun z => .d (.int z), (some (Rl.plain y ly).d).map .d] :=
      (s3'.fr f4 (nG (o2 := some _) (x3 := some _) (fun d z => by cases z; exact nl_rl _) x4n)).set (s := .d (Rl.plain y ly).d) hd4
    refine tb_set hX (L 2 rfl) (te_callG hX hgd Fo (G 3 rfl) (by decide) (ta_cons ((ev_var (Vr 0 rfl) rfl).goT s4 fun v5 H5 e5 h5 => ta_cons (te_lst ?_))))
    refine ta_cons (Ev.goT (s := .d (Rl.all r (.plain y ly)).d) (ev_tup (ds := [.str "all", r.d, (Rl.plain y ly).d]) (eva_cons ev_str (eva_cons (ev_var (Vr 2 rfl) rfl) (eva_cons (ev_var (Vr 4 rfl) rfl) eva_nil))) (by simp)) (s4.up e5) fun c1 H6 e6 h6 => ?_)
    refine ta_cons (Ev.goT (s := .d (Rl.any r (.plain y ly)).d) (ev_tup (ds := [.str "any", r.d, (Rl.plain y ly).d]) (eva_cons ev_str (eva_cons (ev_var (Vr 2 rfl) rfl) (eva_cons (ev_var (Vr 4 rfl) rfl) eva_nil))) (by simp)) (s4.up (e5.trans e6)) fun c2 H7 e7 h7 => ?_)
    refine ta_cons (Ev.goT (s := .d (Rl.any (.plain y ly) r).d) (ev_tup (ds := [.str "any", (Rl.plain y ly).d, r.d]) (eva_cons ev_str (eva_cons (ev_var (Vr 4 rfl) rfl) (eva_cons (ev_var (Vr 2 rfl) rfl) eva_nil))) (by simp)) (s4.up ((e5.trans e6).trans e7)) fun c3 H8 e8 h8 => ?_)
    refine ta_nil ⟨by simp, fun q hq => ta_nil ?_⟩
    have e58 := ((e5.trans e6).trans e7).trans e8
    have eq := same_new (o := .lst [c1, c2, c3]) hq
    rw [show v5 = V.ref m from h5]
    refine ⟨m, lc, lg, q, N + 6 + 6 * j + 5, _, rfl, (m4.up e58).up eq, by omega, upd_same, (m4.up e58).fresh hq, by simp, by simp, fun i v H9 hv f9 m9 => ?_⟩
    obtain ⟨r', hr', q1, q2, q3⟩ : ∃ r' : Rl, Dp K H9 v r'.d ∧ r'.In h ∧ r'.words ≤ 1 + 2 * (j + 1) ∧ r'.deep ≤ j + 1 := by
      rcases i with _ | _ | _ | i
      · cases hv
        exact ⟨_, dp_fr f9 (nl_rl _) (dp_up ((e7.trans e8).trans eq) h6), ⟨rin, hin4⟩, by simp [Rl.words]; omega, by simp [Rl.deep]; omega⟩
      · cases hv
        exact ⟨_, dp_fr f9 (nl_rl _) (dp_up (e8.trans eq) h7), ⟨rin, hin4⟩, by simp [Rl.words]; omega, by simp [Rl.deep]; omega⟩
      · cases hv
        exact ⟨_, dp_fr f9 (nl_rl _) (dp_up eq h8), ⟨hin4, rin⟩, by simp [Rl.words]; omega, by simp [Rl.deep]; omega⟩
      · simp at hv
    have f49 : Fr T [m, lc, lg] H4 H9 := (Fr.same (e58.trans eq)).trans f9
    refine tb_nil ⟨r', some (j : Int), some (Rl.plain y ly).d, fun d z => by cases z; exact nl_rl _, q1, q2, q3, f3.trans (f4.trans f49), m9.mono (by omega), (s4.fr f49 (nG (o2 := some _) (x3 := some _) (o4 := some _) (fun d z => by cases z; exact nl_rl _) (fun d z => by cases z; exact nl_rl _))).set (s := .d r'.d) hr'⟩
  · intro σ2 H3 iv
    obtain ⟨r, x3, x4, x4n, rin, rw_, rd, f3, m3, s3⟩ := iv
    refine tb_retE (PEto (pe_ifExp pt_sem pe_sem pe_sem) (PTto (pt_cmpR op_eq pe_sem pe_sem (nomark _)) ?_))
    refine te_drawP (Φ := MP.top) (m := m) (lc := lc) (lg := lg) (N := N + 6 + 6 * i.toNat) (n := 3) hX hgd Fd (G 2 rfl) (by decide) (ev_var (Vr 0 rfl) rfl) ev_int s3 trivial m3 (by omega) (by omega) (by omega) fun z H4 z0 z1 f4 m4 => ?_
    have s4 := s3.fr f4 (nG (o2 := some _) (fun d z => by cases z; exact nl_rl _) x4n)
    refine ev_int.goT s4 fun u H5 e5 h5 => ?_
    rw [dp_int h5]
    refine ⟨rfl, _, rfl, ?_⟩
    by_cases hz : z = 0
    · rw [show decide (V.int z = V.int 0) = true by rw [hz]; rfl]
      refine iteT (te_tup (ta_cons (ev_str.goT (s4.up e5) fun a1 H6 e6 h6 => ta_cons ((ev_var (Vr 2 rfl) rfl).goT (s4.up (e5.trans e6)) fun a2 H7 e7 h7 => ta_cons ?_))))
      refine te_callG hX hgd Fo (G 3 rfl) (by decide) (ta_cons ((ev_var (Vr 0 rfl) rfl).goT (s4.up ((e5.trans e6).trans e7)) fun v8 H8 e8 h8 => ta_cons (te_lst ?_)))
      have s8 := s4.up (((e5.trans e6).trans e7).trans e8)
      refine ta_cons (ev_int.goT s8 fun c1 H9 e9 h9 => ta_cons (ev_int.goT (s8.up e9) fun c2 H10 e10 h10 => ta_cons (ev_int.goT (s8.up (e9.trans e10)) fun c3 H11 e11 h11 => ta_cons (ev_int.goT (s8.up ((e9.trans e10).trans e11)) fun c4 H12 e12 h12 => ta_nil ⟨by simp, fun q hq => ta_nil ?_⟩))))
      rw [show v8 = V.ref m from h8, dp_int h9, dp_int h10, dp_int h11, dp_int h12]
      have e512 := (((((((e5.trans e6).trans e7).trans e8).trans e9).trans e10).trans e11).trans e12)
      have eq := same_new (o := .lst [.int 0, .int 1, .int 5, .int 99]) hq
      refine ⟨m, lc, lg, q, N + 6 + 6 * i.toNat + 1, _, rfl, (m4.up e512).up eq, by omega, upd_same, (m4.up e512).fresh hq, by simp, by simp, fun ix v H13 hv f13 m13 => ?_⟩
      obtain ⟨fee, rfl, fe0, fe1⟩ : ∃ fee : Int, v = .int fee ∧ 0 ≤ fee ∧ fee ≤ 99 := by
        rcases ix with _ | _ | _ | _ | ix
        · cases hv; exact ⟨0, rfl, by omega, by omega⟩
        · cases hv; exact ⟨1, rfl, by omega, by omega⟩
        · cases hv; exact ⟨5, rfl, by omega, by omega⟩
        · cases hv; exact ⟨99, rfl, by omega, by omega⟩
        · simp at hv
      refine ta_nil ⟨by simp, fun q2 hq2 => ?_⟩
      have eq2 := same_new (o := .tup [a1, a2, .int fee]) hq2
      have e813 : Fr T [m, lc, lg] H7 H13 := (Fr.same (((((e8.trans e9).trans e10).trans e11).trans e12).trans eq)).trans f13
      refine kk (.oust r fee) _ _ ⟨⟨rin, fe0, fe1⟩, by simp [Rl.words]; omega, by simp [Rl.deep]; omega⟩ ?_ (f3.trans (f4.trans ((Fr.same ((e5.trans e6).trans e7)).trans (e813.trans (Fr.same eq2))))) ((m13.up eq2).mono (by omega))
      refine .tup (SqT.of upd_same) (.cons (dp_up eq2 (dp_fr e813 (nl_str _) (dp_up e7 h6))) (.cons (dp_up eq2 (dp_fr e813 (nl_rl r) h7)) (.cons (.int fee) .nil)))
    · rw [show decide (V.int z = V.int 0) = false by rw [dec_int]; simpa using hz]
      refine iteF ((ev_var (Vr 2 rfl) rfl).goT (s4.up e5) fun v' H6 e6 h6 => ?_)
      exact kk r v' H6 ⟨rin.okR, by omega, by omega⟩ h6 (f3.trans (f4.trans (Fr.same (e5.trans e6)))) ((m4.up (e5.trans e6)).mono (by omega))
end
end BL
end

section
set_option Elab.async false
set_option linter.all false
set_option maxRecDepth 100000
set_option maxHeartbeats 4000000
/-! BLh: the drawing machine is begun. -/
namespace BL
open PySem PySem.Spec PyProof.Rows L2
section
variable {P : Program} {w : World} {K : PySem.W.Frag} {mg : Str → Option Value} {base : Heap} {k : Nat}
variable {X : Cx} {Γ Γ' : Gm} {Φ : MP} {a b c e tg it : Expr} {es : List Expr} {pos p : Pos} {s t : Sv} {ss : List Sv} {σ : L2.St} {H : Hp} {D : Ends} {st : Stmt} {sts bd el : List Stmt} {T : List (Addr × Str)} {m lc lg : Addr} {N : Nat}
/-- x = [..] of data, the list's own address -/
theorem tb_setLcL {N : List Str} {sc scope : Scope} (own : List (Str × Nat)) (os vs : List (Nat × Str)) (gs : List Str) {elt : Expr} {α : Type} (l : List α) (g : α → PyData) (f : α → PyData) {i : Nat} {x : Str} {px lpos : Pos}
    (hX : In P w K mg base k X) (hn : Nm N sc X) (BT : btabB N sc scope own os vs gs = true) (src : EvI K X Γ Φ tg it (l.map g))
    (turn : ∀ a ∈ l, ∃ Γ', ∀ X', In P w K mg base k X' → BN os vs gs X' → TgOk K X' (own.map (·.2)) tg (g a) (wipeG Γ (own.map (·.2))) Γ' ∧ Ev K X' Γ' Φ elt (.d (f a)))
    (hnl : ∀ a ∈ l, nl (f a) = true) (sz : l.length ≤ 10000) (hN : X.N[i]? = some x) (hl : X.env.scope.names.lookup x = some .local) (hw : swB sc scope x px lpos = true) (hs : Slots K σ H Γ) (hp : Φ.p H)
    (kk : ∀ (q : Addr) (acc : List V) (H' : Hp), H q = none → Same H H' → H' q = some (.lst acc) → DpAll K H' acc (l.map f) → tB X sts D (σ.set i (some (.ref q))) H')
    (hf : ∀ x, foldedSetIterable it X.env x = pure x := by intro _; rfl) : tB X (.Assign [.Name x px] (.ListComp elt [⟨tg, it, [], 0⟩] scope lpos) pos :: sts) D σ H :=
  tb_cons (PSto (ps_setLc hX.calm hX.nd hN hl (sw_of hn.sc hw) pi_sem (btab_ok BT hn) gB_ok ttB_ok teB_ok hf) (lcA_read (P := P) (w := w) (mg := mg) (base := base) (k := k) (scope := scope) (os := os) (vs := vs) (gs := gs) (l := l) (g := g) (t := fun _ => true) (f := f) ⟨src, fun a ha => let ⟨Γ', q⟩ := turn a ha; ⟨Γ', fun X' h1 h2 => ⟨(q X' h1 h2).1, evts_nil, fun _ => (q X' h1 h2).2⟩⟩, fun a ha _ => hnl a ha, sz⟩ hX
    (fun X' hb => ⟨fun j _ _ e => btab_own BT hn hb j e, fun j _ _ e => btab_var BT hn hb j e, fun j _ e => btab_glo BT hn hb j e⟩) hs hp fun v H' e1 h1 h2 => by
      obtain ⟨q, acc, rfl, hq, ha, hd⟩ := h2
      rw [List.filter_eq_self.mpr (fun _ _ => rfl)] at hd
      exact kk q acc H' hq e1 ha hd))
def spFold (K : PySem.W.Frag) : Sp := fun vs H Q _ => ∃ (a : Addr) (ns : List Int), vs = [.ref a] ∧ SqL K H a (ns.map V.int) ∧ ns.length ≤ 100 ∧
  ∀ (q : Addr) (cs : List Int) (H' : Hp), H q = none → Same H H' → H' q = some (.lst (cs.map V.int)) → cs.length = 64 → (∀ c ∈ cs, 0 ≤ c ∧ c < 2 ^ 31) → Q (.ref q) H'
theorem same_up {H H1 : Hp} {q : Addr} {o : HO} (e : Same H H1) (hq : H q = none) : Same H (upd H1 q o) := fun b u h => by
  rw [upd_ne (ne_of_none h hq)]
  exact e b u h
theorem set_bound {cs : List Int} {i : Nat} {z : Int} (h : ∀ c ∈ cs, 0 ≤ c ∧ c < 2 ^ 31) (hz : 0 ≤ z ∧ z < 2 ^ 31) : ∀ c ∈ cs.set i z, 0 ≤ c ∧ c < 2 ^ 31 := fun c hc => by
  rcases List.mem_or_eq_of_mem_set hc with q | q
  · exact h c q
  · rw [q]; exact hz
theorem getD_bound {cs : List Int} (h : ∀ c ∈ cs, 0 ≤ c ∧ c < 2 ^ 31) (i : Nat) : 0 ≤ cs.getD i 0 ∧ cs.getD i 0 < 2 ^ 31 := by
  by_cases q : i < cs.length
  · have e : cs.getD i 0 = cs[i] := by simp [List.getD, q]
    rw [e]; exact h _ (List.getElem_mem q)
  · have e : cs.getD i 0 = 0 := by simp [List.getD, List.getElem?_eq_none (Nat.le_of_not_lt q)]
    rw [e]; omega
/-- l[i] = e, a list of ints -/
theorem tb_putL {o i : Expr} {l : Addr} {cs : List Int} {j : Nat} {z : Int} {pos' : Pos} (hX : In P w K mg base k X) (hv : Ev K X Γ Φ e (.d (.int z))) (ho : Ev K X Γ Φ o (.r (.ref l))) (hi : Ev K X Γ Φ i (.d (.int (j : Int)))) (hj : j < cs.length) (hs : Slots K σ H Γ) (hp : Φ.p H) (hl : H l = some (.lst (cs.map V.int)))
    (kk : ∀ H', Same H H' → H' l = some (.lst (cs.map V.int)) → tB X sts D σ (upd H' l (.lst ((cs.set j z).map V.int))))
    (ha : ∀ v, assign (.Subscript o i pos') X.env v = (do
      let ov ← holding [v] (eval o X.env)
      let iv ← holding [v, ov] (eval i X.env)
      standAt pos'
      holding [v, ov, iv] (setItem ov iv v)
      release [v, ov, iv] []) := by intro _; rfl)
    (hs' : swapsWithSole [.Subscript o i pos'] e pos.line X.env = pure false := by rfl) (hw : swappedStores [.Subscript o i pos'] e X.env = pure none := by rfl)
    (h1 : (assignEach [.Subscript o i pos'] X.env).map (·.2) = [assign (.Subscript o i pos') X.env] := by rfl) : tB X (.Assign [.Subscript o i pos'] e pos :: sts) D σ H := by
  refine tb_unp (hv.go hs hp fun v H1 e1 q1 => PGto (pg_sub pe_sem pe_sem set_list ha) (ho.go (hs.up e1) (Φ.up e1 hp) fun u H2 e2 q2 => hi.go (hs.up (e1.trans e2)) (Φ.up (e1.trans e2) hp) fun ix H3 e3 q3 => ?_)) hs' hw h1
  have e := (e1.trans e2).trans e3
  refine ⟨l, cs.map V.int, (j : Int), j, q2, dp_int q3, e _ _ hl, by rw [List.length_map]; unfold ixN; rw [if_pos (by omega), if_pos (by omega)]; rfl, ?_⟩
  rw [dp_int q1, ← List.map_set]
  exact kk H3 e (e _ _ hl)
theorem f_l_folded (tx : Tx mg) (F : FnF K mg "_law_folded" s_l_folded ["_law_script"]) : EFn P w K mg base 1 "_law_folded" (spFold K) := by
  refine efn_of F sc_l_folded (fun vs H Q E h => by obtain ⟨_, _, rfl, _⟩ := h; rfl) (fun X hX hgd hn vs H Q h => ?_) (fun vs H Q E h => h)
  have Vr := fun (j : Nat) {i : Nat} {x : Str} e => (tab_loc tb_l_folded hn (i := i) (x := x) j e).1
  have L := fun (j : Nat) {i : Nat} {x : Str} e => (tab_loc tb_l_folded hn (i := i) (x := x) j e).2
  have G := fun (j : Nat) {x : Str} e => tab_glo tb_l_folded hn (x := x) j e
  obtain ⟨sa, ns, rfl, hsq, hlen, kk⟩ := h
  have s0 : Slots K (L2.start n_l_folded [.ref sa]) H (startS n_l_folded [.r (.ref sa)]) := startS_slots (.cons rfl .nil)
  refine tb_setLcL (Φ := MP.top) [("_law_n", 2)] [(2, "_law_n")] [] [] (List.range 64) (fun i => .int (i : Int)) (fun i => .int (17 + (i : Int))) hX hn (by decide +kernel) (EvI.to (evi_rng1 (n := 64) hX (G 0 rfl) tx.range ev_int (by omega) (by omega)) (by unfold rngD; simp))
    (fun i hi => ⟨_, fun X' hX' B => ⟨tg_name hX'.nd (B.o 0 rfl).2 (by simp), ev_add ev_int (ev_var (B.o 0 rfl).1 rfl)⟩⟩) (fun a _ => nl_int _) (by simp) (hn.at_ (i := 1) rfl) (hn.loc rfl) (by decide +kernel) s0 trivial fun q acc H1 hq e1 hacc dacc => ?_
  have hacc' : acc = ((List.range 64).map fun (i : Nat) => (17 + (i : Int))).map V.int := by
    have e : (List.range 64).map (fun (i : Nat) => PyData.int (17 + (i : Int))) = ((List.range 64).map fun (i : Nat) => (17 + (i : Int))).map PyData.int := by rw [List.map_map]; rfl
    rw [e] at dacc
    exact dps_ints dacc
  rw [hacc'] at hacc
  have s1 : Slots K ((L2.start n_l_folded [.ref sa]).set 1 (some (.ref q))) H1 [some (.r (.ref sa)), some (.r (.ref q)), none, none] := (s0.up e1).set (s := .r (.ref q)) rfl
  -- what is kept
  have I0 : ∃ cs : List Int, H1 q = some (.lst (cs.map V.int)) ∧ cs.length = 64 ∧ ∀ c ∈ cs, 0 ≤ c ∧ c < 2 ^ 31 := ⟨_, hacc, by simp, fun c hc => by
    obtain ⟨i, hi, rfl⟩ := List.mem_map.mp hc
    have := List.mem_range.mp hi
    omega⟩
  clear dacc hacc hacc'
  -- the first loop
  refine tb_cons (PSto (ps_for hn.pas hX.calm pi_sem pg_sem pb_sem (by intro _; rfl)) (PIto (pi_enum (G 1 rfl).1 (by rw [hX.mg]; exact tx.enum) pa_sem rfl) (ta_cons ((ev_var (Vr 0 rfl) rfl).goT s1 fun v H2 e2 h2 => ta_nil ?_))))
  cases (show v = V.ref sa from h2)
  rw [hX.K]
  refine ⟨sa, ns.map V.int, rfl, (e1.trans e2).seq hsq, ?_⟩
  refine for_it (walk_enum (K := K) (a := sa) (xs := ns.map V.int)) (fun i σ' H' => Same H H' ∧ (∃ cs : List Int, H' q = some (.lst (cs.map V.int)) ∧ cs.length = 64 ∧ ∀ c ∈ cs, 0 ≤ c ∧ c < 2 ^ 31) ∧ ∃ x2 x3, Slots K σ' H' [some (.r (.ref sa)), some (.r (.ref q)), x2, x3])
    ⟨e1.trans e2, (let ⟨cs, a, b⟩ := I0; ⟨cs, e2 _ _ a, b⟩), none, none, s1.up e2⟩ (fun i σ' H' _ p => p.1.seq hsq) ?_ ?_
  · intro i x σ3 H3 H4 hi p y
    obtain ⟨e3, ⟨cs, hcs, cl, cb⟩, x2, x3, s3⟩ := p
    obtain ⟨Tp, y1, y2, rfl, hT, rfl, hy1, hy2⟩ := y
    have hi' : i < ns.length := by rw [List.length_map] at hi; exact hi
    have hy2' : y2 = .int ns[i] := by
      have hy3 : (ns.map V.int)[i]? = some y2 := hy2
      rw [List.getElem?_map, List.getElem?_eq_getElem hi'] at hy3
      exact (Option.some.inj hy3).symm
    have hy1' : y1 = .int (i : Int) := (Option.some.inj hy1).symm
    subst hy1' hy2'
    have eT := same_new (o := .tup [.int (i : Int), .int ns[i]]) hT
    refine (tg_tup (own := [2, 3]) (ds := [.int (i : Int), .int ns[i]]) hX (tgs_cons (tg_name hX.nd (L 2 rfl) (by simp)) (tgs_cons (tg_name hX.nd (L 3 rfl) (by simp)) tgs_nil)) rfl) _ _ _ _ (s3.up eT) (.tup (SqT.of upd_same) (.cons (.int _) (.cons (.int _) .nil))) fun σ5 s5 _ _ => ?_
    have hx : ((i : Int) % 64).toNat < cs.length := by rw [cl]; omega
    have ix : ∀ {Γ : Gm} {Φ : MP} {p1 p2 p3 p4 p5 : Pos} {j : Nat}, Γ[2]? = some (some (.d (.int (i : Int)))) → Ev K X Γ Φ (.BinOp (.Call (.Name "int" p1) [.Name "_law_n" p2] [] p3) .Mod (.Constant (.int 64) j p4) p5) (.d (.int ((((i : Int) % 64).toNat : Nat) : Int))) := fun g =>
      Ev.to (ev_mod (ev_int1 hX (G 2 rfl) tx.int_ rfl (ev_var (Vr 2 rfl) g)) ev_int (by omega)) (svI (by omega))
    have cg := getD_bound cb ((i : Int) % 64).toNat
    refine tb_putL (Φ := MP.at_ q (.lst (cs.map V.int))) (l := q) (cs := cs) hX (ev_mod (ev_int1 hX (G 2 rfl) tx.int_ rfl (ev_add (ev_mul (ev_ixL (ds := cs.map .int) hX (Ev.seeL (ev_var (Vr 1 rfl) rfl) fun H h => ⟨h, dps_of_ints cs⟩) (ix rfl) (iT_get hx)) ev_int (.inl (by omega))) (ev_var (Vr 3 rfl) rfl))) ev_int (by omega)) (ev_var (Vr 1 rfl) rfl) (ix rfl) hx s5 (eT _ _ hcs) (eT _ _ hcs) fun H6 e6 h6 => tb_nil ?_
    have f6 : Fr (T := []) [q] H6 (upd H6 q (.lst ((cs.set ((i : Int) % 64).toNat ((cs.getD ((i : Int) % 64).toNat 0 * 48271 + ns[i]) % 2147483647)).map V.int))) := Fr.upd h6 trivial (by simp)
    refine ⟨same_up ((e3.trans eT).trans e6) hq, ⟨_, upd_same, by rw [List.length_set]; exact cl, set_bound cb ⟨Int.emod_nonneg _ (by omega), by have := Int.emod_lt_of_pos (cs.getD ((i : Int) % 64).toNat 0 * 48271 + ns[i]) (show (0 : Int) < 2147483647 by omega); omega⟩⟩, _, _, (s5.up e6).fr f6 (nlG_r (nlG_r (nlG_d (nl_int _) (nlG_d (nl_int _) nlG_nil))))⟩
  · intro σ3 H3 p
    obtain ⟨e3, ⟨cs, hcs, cl, cb⟩, x2, x3, s3⟩ := p
    -- the second loop
    refine tb_cons (PSto (ps_for hn.pas hX.calm pi_sem pg_sem pb_sem (by intro _; rfl)) (PIto (pi_range2 (G 0 rfl).1 (by rw [hX.mg]; exact tx.range) pa_sem rfl rfl) (ta_cons (ev_int.goT s3 fun v H4 e4 h4 => ta_cons (ev_int.goT (s3.up e4) fun u H5 e5 h5 => ta_nil ?_)))))
    refine ⟨1, 64, by rw [dp_int h4, dp_int h5], ⟨by omega, by omega, by omega, by omega⟩, ?_⟩
    refine for_it (walk_range (lo := 1) (n := 63)) (fun i σ' H' => Same H H' ∧ (∃ cs : List Int, H' q = some (.lst (cs.map V.int)) ∧ cs.length = 64 ∧ ∀ c ∈ cs, 0 ≤ c ∧ c < 2 ^ 31) ∧ ∃ x2 x3, Slots K σ' H' [some (.r (.ref sa)), some (.r (.ref q)), x2, x3] ∧ nlG [x2, x3])
      ⟨(e3.trans e4).trans e5, ⟨cs, e5 _ _ (e4 _ _ hcs), cl, cb⟩, none, none, (s3.up (e4.trans e5)).sub ⟨rfl, fun i s h => by
        rcases i with _ | _ | _ | _ | i <;> simp at h ⊢ <;> exact h⟩, nlG_none (nlG_none nlG_nil)⟩ (fun _ _ _ _ _ => trivial) ?_ ?_
    · intro i x σ6 H6 H7 hi p y
      obtain ⟨rfl, rfl⟩ := y
      obtain ⟨e6, ⟨cs, hcs, cl, cb⟩, x2, x3, s6, n6⟩ := p
      refine PGto (pg_name hX.nd (L 2 rfl).1 (L 2 rfl).2.1 (L 2 rfl).2.2) ?_
      have s7 : Slots K (σ6.set 2 (some (.int (1 + (i : Int))))) H7 [some (.r (.ref sa)), some (.r (.ref q)), some (.d (.int ((1 + i : Nat) : Int))), none] := (s6.set (i := 2) (s := .d (.int (1 + (i : Int)))) (.int _)).sub ⟨rfl, fun j s h => by
        rcases j with _ | _ | _ | _ | j <;> simp at h ⊢ <;> exact h⟩
      have c1 := getD_bound cb i
      refine tb_putL (Φ := MP.at_ q (.lst (cs.map V.int))) (l := q) (cs := cs) (j := 1 + i) hX (ev_mod (ev_int1 hX (G 2 rfl) tx.int_ rfl (ev_add (ev_ixL (ds := cs.map .int) hX (Ev.seeL (ev_var (Vr 1 rfl) rfl) fun H h => ⟨h, dps_of_ints cs⟩) (ev_var (Vr 2 rfl) rfl) (iT_get (by omega)))
        (ev_mul (ev_ixL (ds := cs.map .int) (i := (i : Int)) hX (Ev.seeL (ev_var (Vr 1 rfl) rfl) fun H h => ⟨h, dps_of_ints cs⟩) (Ev.to (ev_sub (ev_var (Vr 2 rfl) rfl) ev_int) (svI (by omega))) (iT_get (by omega))) ev_int (.inl (by omega))))) ev_int (by omega)) (ev_var (Vr 1 rfl) rfl) (ev_var (Vr 2 rfl) rfl) (by omega) s7 hcs hcs fun H8 e8 h8 => tb_nil ?_
      have f8 : Fr (T := []) [q] H8 (upd H8 q (.lst ((cs.set (1 + i) ((cs.getD (1 + i) 0 + cs.getD i 0 * 16807) % 2147483647)).map V.int))) := Fr.upd h8 trivial (by simp)
      refine ⟨same_up (e6.trans e8) hq, ⟨_, upd_same, by rw [List.length_set]; exact cl, set_bound cb ⟨Int.emod_nonneg _ (by omega), by have := Int.emod_lt_of_pos (cs.getD (1 + i) 0 + cs.getD i 0 * 16807) (show (0 : Int) < 2147483647 by omega); omega⟩⟩, _, _, (s7.up e8).fr f8 (nlG_r (nlG_r (nlG_d (nl_int _) (nlG_none nlG_nil)))), nlG_d (nl_int _) (nlG_none nlG_nil)⟩
    · intro σ6 H6 p
      obtain ⟨e6, ⟨cs, hcs, cl, cb⟩, x2, x3, s6, _⟩ := p
      refine tb_ret (Φ := MP.top) (ev_var (Vr 1 rfl) rfl) s6 trivial fun v' H7 e7 h7 => ?_
      cases (show v' = V.ref q from h7)
      exact kk q cs H7 hq (e6.trans e7) (e7 _ _ hcs) cl cb
end
end BL
end

section
set_option Elab.async false
set_option linter.all false
set_option maxRecDepth 100000
set_option maxHeartbeats 4000000
/-! BLi: dict displays; the machine begun. -/
namespace BL
open PySem PySem.Spec PyProof.Rows L2
section
variable {P : Program} {w : World} {K : PySem.W.Frag} {mg : Str → Option Value} {base : Heap} {k : Nat}
variable {X : Cx} {Γ Γ' : Gm} {Φ : MP} {a b c e tg it : Expr} {es : List Expr} {pos p : Pos} {s t : Sv} {ss : List Sv} {σ : L2.St} {H : Hp} {D : Ends} {st : Stmt} {sts bd el : List Stmt} {T : List (Addr × Str)} {m lc lg : Addr} {N : Nat}
/-- {'a': x, 'b': y} -/
theorem te_disp2 {k1 k2 : Expr} {Q : VK} {x1 x2 : Str} (hne : x1 ≠ x2) (h : ∀ q, H q = none → tE X k1 σ (upd H q (.dK [])) fun u1 H1 => tE X a σ H1 fun v1 H2 => tE X k2 σ H2 fun u2 H3 => tE X b σ H3 fun v2 H4 =>
    u1 = .str x1 ∧ u2 = .str x2 ∧ H4 q = some (.dK []) ∧ Q (.ref q) (upd H4 q (.dK [(.inr x1, v1), (.inr x2, v2)]))) : tE X (.Dict [some k1, some k2] [a, b] pos) σ H Q := by
  refine PEto (pe_disp (pps_cons pe_sem pe_sem (pps_cons pe_sem pe_sem pps_nil)) rfl rfl (by simp) (by simp)) fun q hq => ?_
  refine tE_mono (h q hq) fun u1 H1 h1 => tE_mono h1 fun v1 H2 h2 => tE_mono h2 fun u2 H3 h3 => tE_mono h3 fun v2 H4 h4 => ?_
  obtain ⟨rfl, rfl, h5, h6⟩ := h4
  refine ⟨h5, [(.inr x1, v1), (.inr x2, v2)], rfl, by simp, ?_⟩
  have e : mergeK [] [((.inr x1 : Key), v1), ((.inr x2 : Key), v2)] = [(.inr x1, v1), (.inr x2, v2)] := by
    unfold mergeK putK
    simp [hne]
  rw [e]
  exact h6
theorem te_disp3 {k1 k2 k3 : Expr} {Q : VK} {x1 x2 x3 : Str} (hne : x1 ≠ x2) (hne2 : x1 ≠ x3) (hne3 : x2 ≠ x3) (h : ∀ q, H q = none → tE X k1 σ (upd H q (.dK [])) fun u1 H1 => tE X a σ H1 fun v1 H2 => tE X k2 σ H2 fun u2 H3 => tE X b σ H3 fun v2 H4 => tE X k3 σ H4 fun u3 H5 => tE X c σ H5 fun v3 H6 =>
    u1 = .str x1 ∧ u2 = .str x2 ∧ u3 = .str x3 ∧ H6 q = some (.dK []) ∧ Q (.ref q) (upd H6 q (.dK [(.inr x1, v1), (.inr x2, v2), (.inr x3, v3)]))) : tE X (.Dict [some k1, some k2, some k3] [a, b, c] pos) σ H Q := by
  refine PEto (pe_disp (pps_cons pe_sem pe_sem (pps_cons pe_sem pe_sem (pps_cons pe_sem pe_sem pps_nil))) rfl rfl (by simp) (by simp)) fun q hq => ?_
  refine tE_mono (h q hq) fun u1 H1 h1 => tE_mono h1 fun v1 H2 h2 => tE_mono h2 fun u2 H3 h3 => tE_mono h3 fun v2 H4 h4 => tE_mono h4 fun u3 H5 h5 => tE_mono h5 fun v3 H6 h6 => ?_
  obtain ⟨rfl, rfl, rfl, h7, h8⟩ := h6
  refine ⟨h7, [(.inr x1, v1), (.inr x2, v2), (.inr x3, v3)], rfl, by simp, ?_⟩
  have e : mergeK [] [((.inr x1 : Key), v1), ((.inr x2 : Key), v2), ((.inr x3 : Key), v3)] = [(.inr x1, v1), (.inr x2, v2), (.inr x3, v3)] := by
    unfold mergeK putK
    simp [hne, hne2, hne3]
  rw [e]
  exact h8
/-- [..] of data, the list's own address -/
theorem te_lcL {N : List Str} {sc scope : Scope} (own : List (Str × Nat)) (os vs : List (Nat × Str)) (gs : List Str) {elt : Expr} {α : Type} (l : List α) (g : α → PyData) (f : α → PyData) {Q : VK}
    (hX : In P w K mg base k X) (hn : Nm N sc X) (BT : btabB N sc scope own os vs gs = true) (src : EvI K X Γ Φ tg it (l.map g))
    (turn : ∀ a ∈ l, ∃ Γ', ∀ X', In P w K mg base k X' → BN os vs gs X' → TgOk K X' (own.map (·.2)) tg (g a) (wipeG Γ (own.map (·.2))) Γ' ∧ Ev K X' Γ' Φ elt (.d (f a)))
    (hnl : ∀ a ∈ l, nl (f a) = true) (sz : l.length ≤ 10000) (hs : Slots K σ H Γ) (hp : Φ.p H)
    (kk : ∀ (q : Addr) (acc : List V) (H' : Hp), H q = none → Same H H' → H' q = some (.lst acc) → DpAll K H' acc (l.map f) → Q (.ref q) H')
    (hf : ∀ x, foldedSetIterable it X.env x = pure x := by intro _; rfl) : tE X (.ListComp elt [⟨tg, it, [], 0⟩] scope pos) σ H Q :=
  PEto (pe_lc hX.calm hX.nd pi_sem (btab_ok BT hn) gB_ok ttB_ok teB_ok hf) (lcA_read (P := P) (w := w) (mg := mg) (base := base) (k := k) (scope := scope) (os := os) (vs := vs) (gs := gs) (l := l) (g := g) (t := fun _ => true) (f := f) ⟨src, fun a ha => let ⟨Γ', q⟩ := turn a ha; ⟨Γ', fun X' h1 h2 => ⟨(q X' h1 h2).1, evts_nil, fun _ => (q X' h1 h2).2⟩⟩, fun a ha _ => hnl a ha, sz⟩ hX
    (fun X' hb => ⟨fun j _ _ e => btab_own BT hn hb j e, fun j _ _ e => btab_var BT hn hb j e, fun j _ e => btab_glo BT hn hb j e⟩) hs hp fun v H' e1 h1 h2 => by
      obtain ⟨q, acc, rfl, hq, ha, hd⟩ := h2
      rw [List.filter_eq_self.mpr (fun _ _ => rfl)] at hd
      exact kk q acc H' hq e1 ha hd)
def spBegun (K : PySem.W.Frag) : Sp := fun vs H Q _ => ∃ (a : Addr) (ns : List Int), vs = [.ref a] ∧ SqL K H a (ns.map V.int) ∧ ns.length ≤ 100 ∧
  ∀ (m lc lg : Addr) (H' : Hp), H m = none → H lc = none → H lg = none → Same H H' → MAt m lc lg 0 H' → Q (.ref m) H'
theorem ev_pow {i j : Int} (ha : Ev K X Γ Φ a (.d (.int i))) (hb : Ev K X Γ Φ b (.d (.int j))) (hc : CPow i j) : Ev K X Γ Φ (.BinOp a .Pow b pos) (.d (.int (i ^ j.toNat))) :=
  ev_op2 op_pow ha hb fun x y H Q h1 h2 _ k => ⟨i, j, dp_int h1, dp_int h2, hc, k _ H (Same.refl H) (.int _)⟩
theorem same_dn {H H' : Hp} {q : Addr} (e : Same H H') (h : H' q = none) : H q = none := by
  cases z : H q with
  | none => rfl
  | some o => rw [e _ _ z] at h; cases h
theorem f_l_begun (tx : Tx mg) (F : FnF K mg "_law_begun" s_l_begun ["_law_script"]) (Ff : EFn P w K mg base 1 "_law_folded" (spFold K)) : EFn P w K mg base 2 "_law_begun" (spBegun K) := by
  refine efn_of F sc_l_begun (fun vs H Q E h => by obtain ⟨_, _, rfl, _⟩ := h; rfl) (fun X hX hgd hn vs H Q h => ?_) (fun vs H Q E h => h)
  have Vr := fun (j : Nat) {i : Nat} {x : Str} e => (tab_loc tb_l_begun hn (i := i) (x := x) j e).1
  have L := fun (j : Nat) {i : Nat} {x : Str} e => (tab_loc tb_l_begun hn (i := i) (x := x) j e).2
  have G := fun (j : Nat) {x : Str} e => tab_glo tb_l_begun hn (x := x) j e
  obtain ⟨sa, ns, rfl, hsq, hlen, kk⟩ := h
  have s0 : Slots K (L2.start n_l_begun [.ref sa]) H (startS n_l_begun [.r (.ref sa)]) := startS_slots (.cons rfl .nil)
  refine tb_set hX (L 1 rfl) (te_disp3 (x1 := "cells") (x2 := "great") (x3 := "spot") (by decide) (by decide) (by decide) fun m hm => ?_)
  have em := same_new (o := .dK []) hm
  refine ev_str.goT (s0.up em) fun u1 H1 e1 h1 => te_callG hX hgd Ff (G 0 rfl) (by decide) (ta_cons ((ev_var (Vr 0 rfl) rfl).goT (s0.up (em.trans e1)) fun v H2 e2 h2 => ta_nil ?_))
  cases (show v = V.ref sa from h2)
  refine ⟨sa, ns, rfl, ((em.trans e1).trans e2).seq hsq, hlen, fun lc cs H3 hlc e3 hcs cl cb => ?_⟩
  have e03 := ((em.trans e1).trans e2).trans e3
  refine ev_str.goT (s0.up e03) fun u2 H4 e4 h4 => te_lst (ta_nil ⟨by simp, fun g0 hg0 => ?_⟩)
  have eg := same_new (o := .lst []) hg0
  refine ev_str.goT (s0.up ((e03.trans e4).trans eg)) fun u3 H6 e6 h6 => ev_int.goT (s0.up (((e03.trans e4).trans eg).trans e6)) fun u4 H7 e7 h7 => ?_
  have e37 := ((e4.trans eg).trans e6).trans e7
  have em1 : Same (upd H m (.dK [])) H7 := ((e1.trans e2).trans e3).trans e37
  have em7 : H7 m = some (.dK []) := em1 _ _ upd_same
  refine ⟨dp_str h1, dp_str h4, dp_str h6, em7, ?_⟩
  rw [dp_int h7]
  have hcs7 : H7 lc = some (.lst (cs.map V.int)) := e37 _ _ hcs
  have hlcm : lc ≠ m := fun z => by rw [z, em7] at hcs7; cases hcs7
  have e08 : Same H (upd H7 m (.dK [(.inr "cells", .ref lc), (.inr "great", .ref g0), (.inr "spot", .int 0)])) := same_up (em.trans em1) hm
  have s8 : Slots K ((L2.start n_l_begun [.ref sa]).set 1 (some (.ref m))) (upd H7 m (.dK [(.inr "cells", .ref lc), (.inr "great", .ref g0), (.inr "spot", .int 0)])) [some (.r (.ref sa)), some (.r (.ref m)), none] := (s0.up e08).set (s := .r (.ref m)) rfl
  have m8 : upd H7 m (.dK [(.inr "cells", .ref lc), (.inr "great", .ref g0), (.inr "spot", .int 0)]) m = some (.dK [(.inr "cells", .ref lc), (.inr "great", .ref g0), (.inr "spot", .int 0)]) := upd_same
  have c8 : upd H7 m (.dK [(.inr "cells", .ref lc), (.inr "great", .ref g0), (.inr "spot", .int 0)]) lc = some (.lst (cs.map V.int)) := by rw [upd_ne hlcm]; exact hcs7
  have hlc0 : H lc = none := same_dn (((em.trans e1).trans e2)) hlc
  generalize upd H7 m (.dK [(.inr "cells", .ref lc), (.inr "great", .ref g0), (.inr "spot", .int 0)]) = H8 at e08 s8 m8 c8 ⊢
  -- m['great'] = [..]
  have big : ∀ {Γ : Gm} {Φ : MP} {p1 p2 p3 p4 p5 : Pos} {j1 j2 : Nat} {X' : Cx} (z : Int), VarAt X' 2 "_law_cell" → Γ[2]? = some (some (.d (.int z))) → EvT K X' Γ Φ (.Compare (.Name "_law_cell" p1) [.GtE] [.BinOp (.Constant (.int 10) j1 p2) .Pow (.Constant (.int 18) j2 p3) p5] p4) (decide (10 ^ 18 ≤ z)) := fun {Γ Φ p1 p2 p3 p4 p5 j1 j2 X'} z hv g =>
    evt_ge (ev_var hv g) (Ev.to (ev_pow (i := 10) (j := 18) ev_int ev_int ⟨by omega, by omega, by decide⟩) rfl)
  refine tb_dput (kvs := [(.inr "cells", .ref lc), (.inr "great", .ref g0), (.inr "spot", .int 0)]) (d := m) (x := "great") hX ?_
  refine te_lcL (Φ := ⟨fun H' => Same H H', fun e h => h.trans e⟩) [("_law_cell", 2)] [(2, "_law_cell")] [] [] ns .int (fun z => .int (if 10 ^ 18 ≤ z then z else 0)) hX hn (by decide +kernel)
    (evi_lst hX (Ev.see (s := .r (.ref sa)) (ev_var (Vr 0 rfl) rfl) fun H' v hp h => by cases (show v = V.ref sa from h); exact .lst (hp.seq hsq) (dps_of_ints ns)))
    (fun z hz => ⟨_, fun X' hX' B => ⟨tg_name hX'.nd (B.o 0 rfl).2 (by simp), ev_if (big z (B.o 0 rfl).1 rfl) (fun q => Ev.to (ev_var (B.o 0 rfl).1 rfl) (svI (by rw [if_pos (of_decide_eq_true q)]))) fun q => Ev.to ev_int (svI (by rw [if_neg (of_decide_eq_false q)]))⟩⟩)
    (fun a _ => nl_int _) (by omega) s8 e08 fun lg acc H9 hlg e9 hacc dacc => ?_
  have hacc' : acc = (ns.map fun z => if 10 ^ 18 ≤ z then z else 0).map V.int := by
    have e : ns.map (fun z => PyData.int (if 10 ^ 18 ≤ z then z else 0)) = (ns.map fun z => if 10 ^ 18 ≤ z then z else 0).map PyData.int := by rw [List.map_map]; rfl
    rw [e] at dacc
    exact dps_ints dacc
  rw [hacc'] at hacc
  refine (ev_var (Vr 1 rfl) rfl).goT (s8.up e9) fun u H10 e10 h10 => ev_str.goT (s8.up (e9.trans e10)) fun z H11 e11 h11 => ?_
  have e811 := (e9.trans e10).trans e11
  refine ⟨h10, dp_str h11, e811 _ _ m8, by simp, ?_⟩
  have f12 : Fr (T := []) [m] H11 (upd H11 m (.dK (putK [(.inr "cells", .ref lc), (.inr "great", .ref g0), (.inr "spot", .int 0)] (.inr "great") (.ref lg)))) := Fr.upd (e811 _ _ m8) trivial (by simp)
  have hlgm : lg ≠ m := fun z => by rw [z, m8] at hlg; cases hlg
  have hlglc : lc ≠ lg := fun z => by rw [z, hlg] at c8; cases c8
  refine tb_ret (Φ := MP.top) (ev_var (Vr 1 rfl) rfl) ((s8.up e811).fr f12 (nlG_r (nlG_r (nlG_none nlG_nil)))) trivial fun v' H13 e13 h13 => ?_
  cases (show v' = V.ref m from h13)
  refine kk m lc lg H13 hm hlc0 (same_dn e08 hlg) ((same_up (e08.trans e811) hm).trans e13) ⟨cs, _, 0, ⟨e13 _ _ (by rw [upd_same]; rfl), e13 _ _ (by rw [upd_ne hlcm]; exact e811 _ _ c8), e13 _ _ (by rw [upd_ne hlgm]; exact e11 _ _ (e10 _ _ hacc))⟩, hlglc, cl, cb, Int.le_refl _, Int.le_refl _⟩
end
end BL
end

section
set_option Elab.async false
set_option linter.all false
set_option maxRecDepth 100000
set_option maxHeartbeats 4000000
/-! BLj: need_rule. -/
namespace BL
open PySem PySem.Spec PyProof.Rows L2
/-- what waits: words with their paths -/
def wD (q : Rl × List Int) : PyData := .tuple [q.1.d, iT q.2]
def child (r : Rl) (i : Int) : Rl := match r with
  | .all a b => if i = 1 then a else b
  | .any a b => if i = 1 then a else b
  | .oust a _ => a
  | r => r
def kids (q : Rl × List Int) : List (Rl × List Int) := (parts q.1).reverse.map fun i => (child q.1 i, q.2 ++ [i])
def wsum : List (Rl × List Int) → Nat
  | [] => 0
  | q :: r => q.1.words + wsum r
theorem wsum_app (a b : List (Rl × List Int)) : wsum (a ++ b) = wsum a + wsum b := by
  induction a with
  | nil => simp [wsum]
  | cons q r ih => simp [wsum, ih]; omega
structure WOk (h : Hl) (q : Rl × List Int) : Prop where
  ok : if q.2 = [] then q.1.OkR h else q.1.In h
  dp : q.2.length + q.1.deep ≤ 3
theorem kids_ok {h : Hl} {q : Rl × List Int} (w : WOk h q) : ∀ z ∈ kids q, WOk h z := fun z hz => by
  obtain ⟨r, path⟩ := q
  obtain ⟨ok, dp⟩ := w
  simp only at ok dp
  have inn : ∀ a b : Rl, (r = .all a b ∨ r = .any a b) → a.In h ∧ b.In h := fun a b e => by
    by_cases c : path = []
    · rw [if_pos c] at ok
      rcases e with rfl | rfl <;> exact ok
    · rw [if_neg c] at ok
      rcases e with rfl | rfl <;> exact ok
  unfold kids at hz
  cases r with
  | plain v l => simp [parts] at hz
  | all a b =>
    obtain ⟨h1, h2⟩ := inn a b (.inl rfl)
    simp only [Rl.deep] at dp
    simp [parts, child] at hz
    rcases hz with rfl | rfl
    · exact ⟨by simpa using h2, by simp; omega⟩
    · exact ⟨by simpa using h1, by simp; omega⟩
  | any a b =>
    obtain ⟨h1, h2⟩ := inn a b (.inr rfl)
    simp only [Rl.deep] at dp
    simp [parts, child] at hz
    rcases hz with rfl | rfl
    · exact ⟨by simpa using h2, by simp; omega⟩
    · exact ⟨by simpa using h1, by simp; omega⟩
  | oust a f =>
    simp only [Rl.deep] at dp
    simp [parts, child] at hz
    subst hz
    refine ⟨?_, by simp; omega⟩
    by_cases c : path = []
    · rw [if_pos c] at ok
      simpa using ok.1
    · rw [if_neg c] at ok
      exact ok.elim
theorem kids_sum (q : Rl × List Int) : wsum (kids q) + 1 = q.1.words := by
  obtain ⟨r, path⟩ := q
  cases r <;> simp [kids, parts, child, wsum, Rl.words] <;> omega
section
variable {P : Program} {w : World} {K : PySem.W.Frag} {mg : Str → Option Value} {base : Heap} {k : Nat}
variable {X : Cx} {Γ Γ' : Gm} {Φ : MP} {a b c e tg it : Expr} {es : List Expr} {pos p : Pos} {s t : Sv} {ss : List Sv} {σ : L2.St} {H : Hp} {D : Ends} {st : Stmt} {sts bd el : List Stmt} {T : List (Addr × Str)} {m lc lg : Addr} {N : Nat}
inductive R_need : List PyData → PyData → Prop where
  | mk (h : Hl) (r : Rl) (ok : h.Ok) (q : r.Ok h) : R_need [h.d, r.d] r.d
theorem parts_at {r : Rl} {i : Int} (h : i ∈ parts r) : ∃ ds, r.d = .tuple ds ∧ atI ds i = some (child r i).d := by
  cases r with
  | plain v l => simp [parts] at h
  | all a b =>
    simp [parts] at h
    rcases h with rfl | rfl
    · exact ⟨_, rfl, rfl⟩
    · exact ⟨_, rfl, rfl⟩
  | any a b =>
    simp [parts] at h
    rcases h with rfl | rfl
    · exact ⟨_, rfl, rfl⟩
    · exact ⟨_, rfl, rfl⟩
  | oust a f =>
    simp [parts] at h
    subst h
    exact ⟨_, rfl, rfl⟩
theorem nl_wD (q : Rl × List Int) : nl (wD q) = true := nl_tup (by unfold nls nls nls; rw [nl_rl, nl_iT]; rfl)
theorem parts_len (r : Rl) : (parts r).length ≤ 2 := by cases r <;> simp [parts]
theorem wsum_len : ∀ l : List (Rl × List Int), l.length ≤ wsum l
  | [] => Nat.le_refl _
  | q :: r => by
    have h1 := wsum_len r
    have h2 := q.1.words_pos
    simp only [List.length_cons, wsum]; omega
theorem EvA.to {tt : List Sv} (h : EvA K X Γ Φ es ss) (q : ss = tt) : EvA K X Γ Φ es tt := q ▸ h
theorem dps_split : ∀ {H : Hp} {xs : List V} {ds es : List PyData}, DpAll K H xs (ds ++ es) → ∃ ys zs, xs = ys ++ zs ∧ DpAll K H ys ds ∧ DpAll K H zs es
  | _, xs, [], _, h => ⟨[], xs, rfl, .nil, h⟩
  | _, _, _ :: ds, _, .cons h1 h2 => by
    obtain ⟨ys, zs, rfl, a, b⟩ := dps_split (ds := ds) h2
    exact ⟨_ :: ys, zs, rfl, .cons h1 a, b⟩
theorem f_need_rule (tx : Tx mg) (F : FnF K mg "need_rule" s_need_rule ["hall", "rule"]) (Fh : PFn P w K mg base 2 "need_hall" R_hall) (Fw : PFn P w K mg base 4 "is_word" R_word) (Fp : PFn P w K mg base 1 "parts_of" R_parts) : PFn P w K mg base 5 "need_rule" R_need := by
  refine pfn_of F sc_need_rule (fun ds d h => by cases h; rfl) fun X hX hn ds d h => ?_
  have Vr := fun (j : Nat) {i : Nat} {x : Str} e => (tab_loc tb_need_rule hn (i := i) (x := x) j e).1
  have L := fun (j : Nat) {i : Nat} {x : Str} e => (tab_loc tb_need_rule hn (i := i) (x := x) j e).2
  have G := fun (j : Nat) {x : Str} e => tab_glo tb_need_rule hn (x := x) j e
  cases h with
  | mk h r ok hq =>
    refine run_cons (runS_expr (ev_call (ds := [h.d]) hX Fh (G 0 rfl) (by decide) (eva_cons (ev_var (Vr 0 rfl) rfl) eva_nil) (.mk h ok))) fun σ H D s0 _ kk => ?_
    -- the stack
    refine tb_par hX hn (i := 2) (j := 3) rfl rfl (by decide) rfl rfl rfl (te_lst (ta_cons (Ev.goT (s := .d (wD (r, []))) (ev_tup (ds := [r.d, .tuple []]) (eva_cons (ev_var (Vr 1 rfl) rfl) (eva_cons (ev_tup (ds := []) eva_nil (by decide)) eva_nil)) (by simp)) s0 fun v H1 e1 h1 => ta_nil ⟨by simp, fun q hq0 => ev_int.goT ((s0.up e1).up (same_new hq0)) fun u H2 e2 h2 => ?_⟩)))
    have eq := same_new (o := .lst [v]) hq0
    have hq00 : H q = none := same_dn e1 hq0
    have e02 := (e1.trans eq).trans e2
    have nG : ∀ {x4 x5 : Option PyData} {z : Int}, (∀ d, x4 = some d → nl d = true) → (∀ d, x5 = some d → nl d = true) → nlG [some (.d h.d), some (.d r.d), some (.r (.ref q)), some (.d (.int z)), x4.map .d, x5.map .d, none] := fun {x4 x5 z} h4 h5 => nlG_d (nl_hl h) (nlG_d (nl_rl r) (nlG_r (nlG_d (nl_int z) (by
      have t5 : nlG [x5.map Sv.d, none] := by
        cases x5 with
        | none => exact nlG_none (nlG_none nlG_nil)
        | some d => exact nlG_d (h5 d rfl) (nlG_none nlG_nil)
      cases x4 with
      | none => exact nlG_none t5
      | some d => exact nlG_d (h4 d rfl) t5))))
    refine tb_cons (PSto (ps_while hn.pas pt_sem pb_sem) ⟨fun m σ' H' => ∃ (pend : List (Rl × List Int)) (xs : List V) (z : Nat) (x4 x5 : Option PyData), m = wsum pend ∧ Same H H' ∧ H' q = some (.lst xs) ∧ DpAll K H' xs (pend.map wD) ∧ z + wsum pend ≤ 7 ∧ (∀ p ∈ pend, WOk h p) ∧ (∀ d, x4 = some d → nl d = true) ∧ (∀ d, x5 = some d → nl d = true) ∧
        Slots K σ' H' [some (.d h.d), some (.d r.d), some (.r (.ref q)), some (.d (.int (z : Int))), x4.map .d, x5.map .d, none], ⟨_, [(r, [])], [v], 0, none, none, rfl, e02, (e2 _ _ upd_same), .cons (dp_up (eq.trans e2) h1) .nil, ?_, ?_, fun d z => (nomatch z), fun d z => (nomatch z), ?_⟩, ?_⟩)
    · simp [wsum]; exact hq.w
    · intro p hp
      rw [List.mem_singleton.mp hp]
      exact ⟨by simpa using hq.ok, by simpa using hq.d⟩
    · exact ((s0.up e02).set (s := .r (.ref q)) rfl).set (s := .d (.int ((0 : Nat) : Int))) h2
    · rintro m σ3 H3 ⟨pend, xs, z, x4, x5, rfl, e3, hxs, dxs, hz, pok, n4, n5, s3⟩
      have shp : SeqAt.shaped (.list (pend.map wD)) = true := (sh_lst (n := 8) fun d hd => by
        obtain ⟨p, hp, rfl⟩ := List.mem_map.mp hd
        refine (sh_tup (n := 7) fun d hd => ?_)
        have := (pok p hp).dp
        rcases List.mem_cons.mp hd with rfl | hd
        · exact (sh_rl p.1).mono (by omega)
        · rcases List.mem_cons.mp hd with rfl | hd
          · exact (sh_iT p.2).mono (by omega)
          · cases hd).shaped (by decide)
      have test : ∀ {p1 p2 p3 : Pos}, EvT K X [some (.d h.d), some (.d r.d), some (.r (.ref q)), some (.d (.int (z : Int))), x4.map .d, x5.map .d, none] (MP.and (MP.at_ q (.lst xs)) ⟨fun H => DpAll K H xs (pend.map wD), fun e h => dps_up e h⟩) (.Compare (.Name "waiting" p1) [.NotEq] [.List [] p2] p3) (!pend.isEmpty) := fun {p1 p2 p3} =>
        EvT.to (evt_ne hX (Ev.seeL (ev_var (Vr 2 rfl) rfl) fun H h => ⟨h.1, h.2⟩) (ev_lst (ds := []) eva_nil (by decide)) shp) (by cases pend <;> rfl)
      refine test σ3 H3 _ s3 ⟨hxs, dxs⟩ fun H4 e4 => ?_
      cases pend with
      | nil =>
        show tB X _ D σ3 H4
        refine tb_ret (Φ := MP.top) (ev_var (Vr 1 rfl) rfl) (s3.up e4) trivial fun v' H5 e5 h5 => kk v' H5 ((e3.trans e4).trans e5) h5
      | cons p0 pr =>
        refine ⟨_, fun σ' H' h' => h', ?_⟩
        -- the last one
        obtain ⟨front, ⟨r1, path⟩, hfl⟩ : ∃ front p, p0 :: pr = front ++ [p] := by
          rcases List.eq_nil_or_concat (p0 :: pr) with e | ⟨L, b, e⟩
          · cases e
          · exact ⟨L, b, by rw [e, List.concat_eq_append]⟩
        rw [hfl] at dxs hz pok
        rw [hfl]
        rw [List.map_append] at dxs
        obtain ⟨ys, zs, rfl, dys, dz⟩ := dps_split dxs
        cases dz with
        | cons dv dn =>
        rename_i v0 vs0
        cases dn
        have wk := pok (r1, path) (by simp)
        have wk1 : if path = [] then r1.OkR h else r1.In h := wk.ok
        have wk2 : path.length + r1.deep ≤ 3 := wk.dp
        have ks := kids_sum (r1, path)
        simp only at ks
        rw [wsum_app] at hz ⊢
        simp only [wsum, Nat.add_zero] at hz ⊢
        refine tb_unp (PEto (pe_bm0 PySem.F.plainAttrs_list PySem.F.slot_list_pop PySem.F.type_list_pop mt_pop pe_sem) ((ev_var (Vr 2 rfl) rfl).goT (s3.up e4) fun u5 H5 e5 h5 => ?_))
        cases (show u5 = V.ref q from h5)
        have hx5 : H5 q = some (.lst (ys ++ [v0])) := e5 _ _ (e4 _ _ hxs)
        refine ⟨.inl ⟨rfl, _, SqL.of hx5⟩, q, _, v0, rfl, rfl, hx5, by simp, ?_⟩
        rw [List.dropLast_concat]
        have f6 : Fr (T := []) [q] H5 (upd H5 q (.lst ys)) := Fr.upd hx5 trivial (by simp)
        have s6 := ((s3.up (e4.trans e5)).fr f6 (nG n4 n5))
        have dv6 : Dp K (upd H5 q (.lst ys)) v0 (wD (r1, path)) := dp_fr f6 (nl_wD _) (dp_up (e4.trans e5) dv)
        have dys6 : DpAll K (upd H5 q (.lst ys)) ys (front.map wD) := dps_nl f6.tup (nls_all fun d hd => by obtain ⟨p, _, rfl⟩ := List.mem_map.mp hd; exact nl_wD p) (dps_up (e4.trans e5) dys)
        have e06 : Same H (upd H5 q (.lst ys)) := same_up ((e3.trans e4).trans e5) hq00
        have hx6 : upd H5 q (.lst ys) q = some (.lst ys) := upd_same
        generalize upd H5 q (.lst ys) = H6 at s6 dv6 dys6 e06 hx6 ⊢
        refine (tg_tup (own := [4, 5]) (ds := [r1.d, iT path]) hX (tgs_cons (tg_name hX.nd (L 4 rfl) (by simp)) (tgs_cons (tg_name hX.nd (L 5 rfl) (by simp)) tgs_nil)) rfl) _ _ _ _ s6 dv6 fun σ7 s7 _ _ => ?_
        have s7' : Slots K σ7 H6 [some (.d h.d), some (.d r.d), some (.r (.ref q)), some (.d (.int (z : Int))), some (.d r1.d), some (.d (iT path)), none] := s7.fit rfl
        refine tb_pure (Φ := MP.top) (runS_aug hX (L 3 rfl) rfl ev_int) s7' trivial fun σ8 H8 e8 s8 => ?_
        have s8' : Slots K σ8 H8 [some (.d h.d), some (.d r.d), some (.r (.ref q)), some (.d (.int ((z + 1 : Nat) : Int))), some (.d r1.d), some (.d (iT path)), none] := s8.fit rfl
        refine tb_ifP (x := false) (Φ := MP.top) (EvT.ofW (EvW.to (evw_or (evt_gt (ev_var (Vr 3 rfl) rfl) (ev_gint hX (G 1 rfl) tx.words)) fun _ => evw_or (evt_gt (Ev.to (ev_lenT hX (G 2 rfl) tx.len (ev_var (Vr 5 rfl) rfl)) (by rw [List.length_map])) (ev_gint hX (G 3 rfl) tx.deep)) fun _ => evw_or1 (evt_not (evt_val
          (ev_call (ds := [h.d, r1.d, .bool (decide (path = []))]) (d := .bool true) hX Fw (G 4 rfl) (by decide) (eva_cons (ev_var (Vr 0 rfl) rfl) (eva_cons (ev_var (Vr 4 rfl) rfl) (eva_cons (Ev.to (ev_eq hX (ev_var (Vr 5 rfl) rfl) (ev_tup (ds := []) eva_nil (by decide)) ((sh_iT path).shaped (by decide))) (by cases path <;> rfl)) eva_nil)))
            (.mk h r1 _ ok (by by_cases c : path = [] <;> simp [c] at wk1 ⊢ <;> exact wk1) (by omega)))))) ?_)) s8' trivial (fun z => nomatch z) fun _ H9 e9 => ?_
        · rw [decide_eq_false (by omega), decide_eq_false (by omega)]; rfl
        refine tb_nil ?_
        have s9 := s8'.up e9
        refine tb_drop (PEto (pe_bm PySem.F.plainAttrs_list PySem.F.slot_list_extend PySem.F.type_list_extend mt_extend pe_sem pa_sem) ((ev_var (Vr 2 rfl) rfl).goT s9 fun u10 H10 e10 h10 => ?_))
        cases (show u10 = V.ref q from h10)
        have hx10 : H10 q = some (.lst ys) := e10 _ _ (e9 _ _ (e8 _ _ hx6))
        refine ⟨.inl ⟨rfl, _, SqL.of hx10⟩, ta_cons ?_⟩
        refine te_lcL (Φ := MP.top) [("spot", 6)] [(6, "spot")] [(4, "here"), (5, "path")] [] (parts r1).reverse .int (fun i => wD (child r1 i, path ++ [i])) hX hn (by decide +kernel)
          (evi_lst hX (Ev.to (ev_revL hX (ev_call (ds := [r1.d]) hX Fp (G 6 rfl) (by decide) (eva_cons (ev_var (Vr 4 rfl) rfl) eva_nil) (.mk r1))) (by rw [List.map_reverse])))
          (fun i hi => by
            obtain ⟨ds, hd1, hd2⟩ := parts_at (r := r1) (i := i) (List.mem_reverse.mp hi)
            exact ⟨_, fun X' hX' B => ⟨tg_name hX'.nd (B.o 0 rfl).2 (by simp), ev_tup (ds := [(child r1 i).d, iT (path ++ [i])]) (eva_cons (ev_ixT (ds := ds) hX' (ev_var (B.v 0 rfl) (by rw [← hd1]; rfl)) (ev_var (B.o 0 rfl).1 rfl) hd2)
              (eva_cons (Ev.to (ev_tup (ds := path.map .int ++ [.int i]) (EvA.to (eva_star (ds := path.map .int) hX' (ev_var (B.v 1 rfl) rfl) (eva_cons (ev_var (B.o 0 rfl).1 rfl) eva_nil)) (by simp)) (by simp; omega)) (by simp [iT])) eva_nil)) (by simp)⟩⟩)
          (fun i _ => nl_wD _) (by rw [List.length_reverse]; have := parts_len r1; omega) (s9.up e10) trivial fun lq acc H11 hlq e11 hacc dacc => ta_nil ?_
        have hx11 : H11 q = some (.lst ys) := e11 _ _ hx10
        have e611 := ((e8.trans e9).trans e10).trans e11
        have hyl : ys.length = front.length := by rw [dps_len dys6, List.length_map]
        have hal : acc.length = (parts r1).length := by rw [dps_len dacc]; simp
        have hwl := wsum_len front
        refine ⟨q, lq, ys, acc, rfl, rfl, hx11, hacc, by rw [sizeLine_eq]; have := parts_len r1; omega, ?_⟩
        have f12 : Fr (T := []) [q] H11 (upd H11 q (.lst (ys ++ acc))) := Fr.upd hx11 trivial (by simp)
        have dk : (parts r1).reverse.map (fun i => wD (child r1 i, path ++ [i])) = (kids (r1, path)).map wD := by unfold kids; rw [List.map_map]; rfl
        rw [dk] at dacc
        refine tb_nil ⟨wsum (front ++ kids (r1, path)), by rw [wsum_app]; omega, front ++ kids (r1, path), ys ++ acc, z + 1, some r1.d, some (iT path), rfl, same_up (e06.trans e611) hq00, upd_same, ?_, by rw [wsum_app]; omega, fun p hp => ?_, fun d z => by cases z; exact nl_rl _, fun d z => by cases z; exact nl_iT _, ?_⟩
        · rw [List.map_append]
          exact dps_app (dps_nl f12.tup (nls_all fun d hd => by obtain ⟨p, _, rfl⟩ := List.mem_map.mp hd; exact nl_wD p) (dps_up e611 dys6)) (dps_nl f12.tup (nls_all fun d hd => by obtain ⟨p, _, rfl⟩ := List.mem_map.mp hd; exact nl_wD p) dacc)
        · rcases List.mem_append.mp hp with hp | hp
          · exact pok p (List.mem_append_left _ hp)
          · exact kids_ok wk p hp
        · exact (s9.up (e10.trans e11)).fr f12 (nG (x4 := some _) (x5 := some _) (fun d z => by cases z; exact nl_rl _) (fun d z => by cases z; exact nl_iT _))
end
end BL
end

section
set_option Elab.async false
set_option linter.all false
set_option maxRecDepth 100000
set_option maxHeartbeats 4000000
/-! BLn: repr; what is kept of a book. -/
namespace BL
open PySem PySem.Spec PyProof.Rows L2
/-! ### repr -/
structure Sw (n wt : Nat) (d : PyData) : Prop where
  c : d.canLay0 = true
  dp : d.depth ≤ n
  w : d.weight ≤ wt
  i : d.intsShort 13 = true
  s : d.showable = true
theorem Sw.mono {n wt n' wt' : Nat} {d : PyData} (h : Sw n wt d) (a : n ≤ n') (b : wt ≤ wt') : Sw n' wt' d := ⟨h.c, Nat.le_trans h.dp a, Nat.le_trans h.w b, h.i, h.s⟩
theorem Sw.sh {n wt : Nat} {d : PyData} (h : Sw n wt d) : Sh n d := ⟨h.c, h.dp⟩
theorem sw_int {i : Int} (h1 : -999999999999 ≤ i) (h2 : i ≤ 999999999999) : Sw 0 40 (.int i) := by
  refine ⟨by unfold PyData.canLay0; rfl, by unfold PyData.depth; exact Nat.le_refl _, ?_, ?_, ?_⟩
  · unfold PyData.weight
    split
    · exact Nat.zero_le _
    · rename_i h0
      have hn : i.natAbs ≠ 0 := by
        have : i ≠ 0 := by simpa using h0
        omega
      have := (Nat.log2_lt hn (k := 40)).mpr (by omega)
      omega
  · unfold PyData.intsShort; exact decide_eq_true (PyData.shown_int_le2 h1 h2)
  · unfold PyData.showable
    refine decide_eq_true ?_
    by_cases hn : i.natAbs = 0
    · rw [hn]; decide
    · have := (Nat.log2_lt hn (k := 40)).mpr (by omega)
      omega
theorem sw_none : Sw 0 0 .none := ⟨by unfold PyData.canLay0; rfl, by unfold PyData.depth; exact Nat.le_refl _, by unfold PyData.weight; exact Nat.le_refl _, by unfold PyData.intsShort; rfl, by unfold PyData.showable; rfl⟩
theorem sw_bool (b : Bool) : Sw 0 0 (.bool b) := ⟨by unfold PyData.canLay0; rfl, by unfold PyData.depth; exact Nat.le_refl _, by unfold PyData.weight; exact Nat.le_refl _, by unfold PyData.intsShort; rfl, by unfold PyData.showable; rfl⟩
theorem sw_str {x : Str} (h : PyData.strOk x = true) (l : x.cps.size ≤ 10) : Sw 0 10 (.str x) := ⟨by unfold PyData.canLay0; exact h, by unfold PyData.depth; exact Nat.le_refl _, by unfold PyData.weight; exact l, by unfold PyData.intsShort; rfl, by unfold PyData.showable; rfl⟩
theorem sw_all {n wt : Nat} : ∀ {ds : List PyData}, (∀ d ∈ ds, Sw n wt d) → PyData.canLayAll0 ds = true ∧ PyData.depthAll ds ≤ n ∧ PyData.weightAll ds ≤ (wt + 1) * ds.length ∧ PyData.intsShortAll 13 ds = true ∧ PyData.showableAll ds = true
  | [], _ => by unfold PyData.canLayAll0 PyData.depthAll PyData.weightAll PyData.intsShortAll PyData.showableAll; exact ⟨rfl, Nat.zero_le _, Nat.zero_le _, rfl, rfl⟩
  | d :: ds, h => by
    unfold PyData.canLayAll0 PyData.depthAll PyData.weightAll PyData.intsShortAll PyData.showableAll
    obtain ⟨h1, h2, h3, h4, h5⟩ := h d List.mem_cons_self
    obtain ⟨q1, q2, q3, q4, q5⟩ := sw_all (ds := ds) fun e he => h e (List.mem_cons_of_mem _ he)
    rw [h1, q1, h4, q4, h5, q5]
    refine ⟨rfl, by omega, ?_, rfl, rfl⟩
    rw [List.length_cons, Nat.mul_succ]; omega
theorem sw_tup {n wt : Nat} {ds : List PyData} (h : ∀ d ∈ ds, Sw n wt d) : Sw (n + 1) ((wt + 1) * ds.length) (.tuple ds) := by
  obtain ⟨h1, h2, h3, h4, h5⟩ := sw_all h
  exact ⟨by unfold PyData.canLay0; exact h1, by unfold PyData.depth; omega, by unfold PyData.weight; exact h3, by unfold PyData.intsShort; exact h4, by unfold PyData.showable; exact h5⟩
theorem sw_lst {n wt : Nat} {ds : List PyData} (h : ∀ d ∈ ds, Sw n wt d) : Sw (n + 1) ((wt + 1) * ds.length) (.list ds) := by
  obtain ⟨h1, h2, h3, h4, h5⟩ := sw_all h
  exact ⟨by unfold PyData.canLay0; exact h1, by unfold PyData.depth; omega, by unfold PyData.weight; exact h3, by unfold PyData.intsShort; exact h4, by unfold PyData.showable; exact h5⟩
/-- it may be shown -/
structure Shows (d : PyData) : Prop where
  ref : ∀ {K : PySem.W.Frag} {H : Hp} {v : V}, Dp K H v d → ∃ a, v = .ref a
  s : Sw 60 1000000 d
theorem Shows.tup {ds : List PyData} (h : Sw 60 1000000 (.tuple ds)) : Shows (.tuple ds) := ⟨fun h => by obtain ⟨a, _, rfl, _⟩ := dp_tup h; exact ⟨a, rfl⟩, h⟩
theorem Shows.lst {ds : List PyData} (h : Sw 60 1000000 (.list ds)) : Shows (.list ds) := ⟨fun h => by obtain ⟨a, _, rfl, _⟩ := dp_lst h; exact ⟨a, rfl⟩, h⟩
theorem cr_repr {X : Cx} (hg : X.A.guards = some []) (hu : X.A.units + 64 < cLine) : CallR X (.builtin "repr") (fun vs H Q => ∃ v d, vs = [v] ∧ Dp X.K H v d ∧ Shows d ∧ Q (.str d.shown) H) := by
  intro pins s σ H vs us Q I r h
  obtain ⟨v, d, rfl, hd, sh, q⟩ := h
  obtain ⟨a, rfl⟩ := sh.ref hd
  obtain ⟨u, rfl, ru⟩ := vals1 r
  cases (show u = Value.ref a from ru)
  obtain ⟨as, hr⟩ := Dp.reads I d _ _ hd rfl
  have hw := sh.s.w
  have hdp := sh.s.dp
  refine repr_of_reads' hr sh.s.s (PyData.noDict_hsm (PyData.hasDict_of_canLay d sh.s.c)) hg (by omega) (fun _ _ e => e) (fun h' u' tk hk => ⟨.str _, H, I.kept hk, ⟨_, rfl⟩, q⟩) (PyData.shown_fits (B := 13) (by decide) (by decide) (PyData.leavesShort_of_canLay0 13 d sh.s.c sh.s.i) (by omega))
section
variable {P : Program} {w : World} {K : PySem.W.Frag} {mg : Str → Option Value} {base : Heap} {k : Nat}
variable {X : Cx} {Γ Γ' : Gm} {Φ : MP} {a b c e tg it : Expr} {es : List Expr} {pos p : Pos} {s t : Sv} {ss : List Sv} {σ : L2.St} {H : Hp} {D : Ends} {st : Stmt} {sts bd el : List Stmt} {T : List (Addr × Str)} {m lc lg : Addr} {N : Nat}
/-- two things that show alike -/
def spLike (K : PySem.W.Frag) : Sp := fun vs H Q _ => ∃ v u d, vs = [v, u] ∧ Dp K H v d ∧ Dp K H u d ∧ Shows d ∧ ∀ H', Same H H' → Q (.bl true) H'
theorem ev_repr {d : PyData} (hX : In P w K mg base k X) (hgd : X.A.guards = some []) (g : GlAt X "repr") (hm : mg "repr" = none) (ha : Ev K X Γ Φ e (.d d)) (hs : Shows d) (he : starEach [e] X.env = (false, eval e X.env) :: starEach [] X.env := by rfl) : Ev K X Γ Φ (.Call (.Name "repr" p) [e] [] pos) (.d (.str d.shown)) :=
  ev_callB hX g (cr_repr hgd hX.room.units) hm rfl (eva_cons ha eva_nil he) (fun vs H Q h _ k => by
    obtain ⟨v, rfl, h1⟩ := sv1 h
    exact ⟨v, d, rfl, by rw [hX.K]; exact h1, hs, k _ H (Same.refl H) (.str _)⟩) he
theorem f_l_like (tx : Tx mg) (F : FnF K mg "_law_like" s_l_like ["_law_answer", "_law_due"]) : EFn P w K mg base 1 "_law_like" (spLike K) := by
  refine efn_of F sc_l_like (fun vs H Q E h => by obtain ⟨_, _, _, rfl, _⟩ := h; rfl) (fun X hX hgd hn vs H Q h => ?_) (fun vs H Q E h => h)
  have Vr := fun (j : Nat) {i : Nat} {x : Str} e => (tab_loc tb_l_like hn (i := i) (x := x) j e).1
  have G := fun (j : Nat) {x : Str} e => tab_glo tb_l_like hn (x := x) j e
  obtain ⟨v, u, d, rfl, h1, h2, hs, kk⟩ := h
  have s0 : Slots K (L2.start n_l_like [v, u]) H (startS n_l_like [.d d, .d d]) := startS_slots (.cons h1 (.cons h2 .nil))
  refine tb_ret (Φ := MP.top) (Ev.to (ev_eqS (ev_repr hX hgd (G 0 rfl) tx.repr (ev_var (Vr 0 rfl) rfl) hs) (ev_repr hX hgd (G 0 rfl) tx.repr (ev_var (Vr 1 rfl) rfl) hs)) (show _ = Sv.d (.bool true) from svB (by simp))) s0 trivial fun v' H' e' h' => ?_
  rw [dp_bl h']
  exact kk H' e'
end
/-! ### what is kept of a book -/
inductive Dd where
  | call (k : Nat)
  | give (k : Nat)
  | change (r : Rl)
def Dd.d : Dd → PyData
  | .call k => .tuple [.str "call", .int (k : Int)]
  | .give k => .tuple [.str "give", .int (k : Int)]
  | .change r => .tuple [.str "change", r.d]
structure Ent where
  dd : Option Dd
  r : Rl
  c : List Int
  p : Int
def ddB : Option Dd → PyData
  | none => .none
  | some d => d.d
def ddO : Option Dd → PyData
  | none => .tuple [.none, .none]
  | some d => d.d
def Ent.dB (e : Ent) : PyData := .tuple [ddB e.dd, e.r.d, iT e.c, .int e.p]
def Ent.dO (e : Ent) : PyData := .tuple [ddO e.dd, e.r.d, iT e.c, .int e.p]
structure Stt where
  past : List Ent
  later : List Ent
def Dd.Ok (h : Hl) : Dd → Prop
  | .call k => k < h.fs.length
  | .give k => k < h.fs.length
  | .change r => r.Ok h
structure Ent.Ok (h : Hl) (n : Nat) (e : Ent) : Prop where
  r : e.r.Ok h
  c : Sold h e.c
  p0 : 0 ≤ e.p
  p1 : e.p ≤ 99 * (n : Int)
  d : ∀ d, e.dd = some d → d.Ok h
structure Stt.Ok (h : Hl) (n : Nat) (s : Stt) : Prop where
  ne : s.past ≠ []
  hd : ∀ e, s.past.head? = some e → e.dd = none
  tl : ∀ e ∈ s.past.tail, e.dd ≠ none
  lt : ∀ e ∈ s.later, e.dd ≠ none
  all : ∀ e ∈ s.past ++ s.later, e.Ok h n
  sz : s.past.length + s.later.length ≤ n
theorem Ent.Ok.mono {h : Hl} {n m : Nat} {e : Ent} (o : e.Ok h n) (l : n ≤ m) : e.Ok h m := ⟨o.r, o.c, o.p0, by have := o.p1; omega, o.d⟩
theorem Stt.Ok.mono {h : Hl} {n m : Nat} {s : Stt} (o : s.Ok h n) (l : n ≤ m) : s.Ok h m := ⟨o.ne, o.hd, o.tl, o.lt, fun e he => (o.all e he).mono l, Nat.le_trans o.sz l⟩
theorem nl_dd (d : Dd) : nl d.d = true := by
  cases d with
  | call k => exact nl_tup (by unfold nls nls nls; rw [nl_str, nl_int]; rfl)
  | give k => exact nl_tup (by unfold nls nls nls; rw [nl_str, nl_int]; rfl)
  | change r => exact nl_tup (by unfold nls nls nls; rw [nl_str, nl_rl]; rfl)
theorem nl_ddB (d : Option Dd) : nl (ddB d) = true := by cases d <;> first | exact nl_none | exact nl_dd _
theorem nl_ddO (d : Option Dd) : nl (ddO d) = true := by cases d <;> first | exact nl_tup (by unfold nls nls nls; rw [nl_none]; rfl) | exact nl_dd _
theorem nl_dB (e : Ent) : nl e.dB = true := nl_tup (by unfold nls nls nls nls nls; rw [nl_ddB, nl_rl, nl_iT, nl_int]; rfl)
theorem nl_dO (e : Ent) : nl e.dO = true := nl_tup (by unfold nls nls nls nls nls; rw [nl_ddO, nl_rl, nl_iT, nl_int]; rfl)
theorem nls_dB (l : List Ent) : nls (l.map Ent.dB) = true := nls_all fun d hd => by obtain ⟨e, _, rfl⟩ := List.mem_map.mp hd; exact nl_dB e
theorem nls_dO (l : List Ent) : nls (l.map Ent.dO) = true := nls_all fun d hd => by obtain ⟨e, _, rfl⟩ := List.mem_map.mp hd; exact nl_dO e
end BL
end

section
set_option Elab.async false
set_option linter.all false
set_option maxRecDepth 100000
set_option maxHeartbeats 4000000
/-! BLo: the own record of a book. -/
namespace BL
open PySem PySem.Spec PyProof.Rows L2
/-- the own record at o -/
def OwV (K : PySem.W.Frag) (lc lg o l1 l2 : Addr) (xs ys : List V) (st : Stt) (H : Hp) : Prop :=
  H o = some (.dK [(.inr "past", .ref l1), (.inr "later", .ref l2)]) ∧ H l1 = some (.lst xs) ∧ H l2 = some (.lst ys) ∧ DpAll K H xs (st.past.map Ent.dO) ∧ DpAll K H ys (st.later.map Ent.dO) ∧ l1 ∉ [lc, lg] ∧ l2 ∉ [lc, lg]
def OwAt (K : PySem.W.Frag) (lc lg o : Addr) (st : Stt) (H : Hp) : Prop := ∃ l1 l2 xs ys, OwV K lc lg o l1 l2 xs ys st H
section
variable {K : PySem.W.Frag} {lc lg o l1 l2 : Addr} {xs ys : List V} {st : Stt} {H H' : Hp} {T : List (Addr × Str)} {S : List Addr}
theorem OwV.up (h : OwV K lc lg o l1 l2 xs ys st H) (e : Same H H') : OwV K lc lg o l1 l2 xs ys st H' := by
  obtain ⟨a, b, c, d, f, g, i⟩ := h
  exact ⟨e _ _ a, e _ _ b, e _ _ c, dps_up e d, dps_up e f, g, i⟩
theorem OwAt.up (h : OwAt K lc lg o st H) (e : Same H H') : OwAt K lc lg o st H' := let ⟨l1, l2, xs, ys, q⟩ := h; ⟨l1, l2, xs, ys, q.up e⟩
def OwVp (K : PySem.W.Frag) (lc lg o l1 l2 : Addr) (xs ys : List V) (st : Stt) : MP := ⟨OwV K lc lg o l1 l2 xs ys st, fun e h => h.up e⟩
/-- what changes holds no list but the machine's -/
def NoL (lc lg : Addr) (S : List Addr) (H : Hp) : Prop := ∀ a ∈ S, a = lc ∨ a = lg ∨ ∀ xs, H a ≠ some (.lst xs)
theorem OwV.fr (h : OwV K lc lg o l1 l2 xs ys st H) (f : Fr T S H H') (ho : o ∉ S) (n : NoL lc lg S H) : OwV K lc lg o l1 l2 xs ys st H' := by
  obtain ⟨a, b, c, d, e, g, i⟩ := h
  have ne : ∀ l zs, H l = some (.lst zs) → l ∉ [lc, lg] → l ∉ S := fun l zs hl hn hm => by
    simp only [List.mem_cons, List.not_mem_nil, or_false, not_or] at hn
    rcases n l hm with z | z | z
    · exact hn.1 z
    · exact hn.2 z
    · exact z _ hl
  exact ⟨f.at a ho, f.at b (ne _ _ b g), f.at c (ne _ _ c i), dps_nl f.tup (nls_dO _) d, dps_nl f.tup (nls_dO _) e, g, i⟩
theorem OwAt.fr (h : OwAt K lc lg o st H) (f : Fr T S H H') (ho : o ∉ S) (n : NoL lc lg S H) : OwAt K lc lg o st H' := let ⟨l1, l2, xs, ys, q⟩ := h; ⟨l1, l2, xs, ys, q.fr f ho n⟩
theorem OwAt.is (h : OwAt K lc lg o st H) : ∃ kvs, H o = some (.dK kvs) := let ⟨_, _, _, _, q⟩ := h; ⟨_, q.1⟩
end
section
variable {P : Program} {w : World} {K : PySem.W.Frag} {mg : Str → Option Value} {base : Heap} {k : Nat}
variable {X : Cx} {Γ Γ' : Gm} {Φ : MP} {a b c e tg it : Expr} {es : List Expr} {pos p : Pos} {s t : Sv} {ss : List Sv} {σ : L2.St} {H : Hp} {D : Ends} {st : Stmt} {sts bd el : List Stmt} {T : List (Addr × Str)} {m lc lg : Addr} {N : Nat}
/-- own['past'], own['later'] -/
theorem ev_past {o l1 l2 : Addr} {xs ys : List V} {stt : Stt} {i : Expr} (hX : In P w K mg base k X) (ho : Ev K X Γ Φ a (.r (.ref o))) (hi : Ev K X Γ Φ i (.d (.str "past"))) (h : ∀ H, Φ.p H → OwV K lc lg o l1 l2 xs ys stt H) (hs : NoSl i := by intro _ _; rfl) : Ev K X Γ Φ (.Subscript a i pos) (.r (.ref l1)) :=
  ev_dget hX ho hi (fun H q => (h H q).1) rfl hs
theorem ev_later {o l1 l2 : Addr} {xs ys : List V} {stt : Stt} {i : Expr} (hX : In P w K mg base k X) (ho : Ev K X Γ Φ a (.r (.ref o))) (hi : Ev K X Γ Φ i (.d (.str "later"))) (h : ∀ H, Φ.p H → OwV K lc lg o l1 l2 xs ys stt H) (hs : NoSl i := by intro _ _; rfl) : Ev K X Γ Φ (.Subscript a i pos) (.r (.ref l2)) :=
  ev_dget hX ho hi (fun H q => (h H q).1) rfl hs
theorem ev_pastD {o l1 l2 : Addr} {xs ys : List V} {stt : Stt} {i : Expr} (hX : In P w K mg base k X) (ho : Ev K X Γ Φ a (.r (.ref o))) (hi : Ev K X Γ Φ i (.d (.str "past"))) (h : ∀ H, Φ.p H → OwV K lc lg o l1 l2 xs ys stt H) (hs : NoSl i := by intro _ _; rfl) : Ev K X Γ Φ (.Subscript a i pos) (.d (.list (stt.past.map Ent.dO))) :=
  Ev.seeL (ev_past hX ho hi h hs) fun H q => ⟨(h H q).2.1, (h H q).2.2.2.1⟩
theorem ev_laterD {o l1 l2 : Addr} {xs ys : List V} {stt : Stt} {i : Expr} (hX : In P w K mg base k X) (ho : Ev K X Γ Φ a (.r (.ref o))) (hi : Ev K X Γ Φ i (.d (.str "later"))) (h : ∀ H, Φ.p H → OwV K lc lg o l1 l2 xs ys stt H) (hs : NoSl i := by intro _ _; rfl) : Ev K X Γ Φ (.Subscript a i pos) (.d (.list (stt.later.map Ent.dO))) :=
  Ev.seeL (ev_later hX ho hi h hs) fun H q => ⟨(h H q).2.2.1, (h H q).2.2.2.2.1⟩
theorem ev_tup2 {j : Nat} {x y : PyData} {e1 e2 : Expr} (h1 : Ev K X Γ Φ e1 (.d x)) (h2 : Ev K X Γ Φ e2 (.d y)) (s1 : starEach [e1, e2] X.env = (false, eval e1 X.env) :: starEach [e2] X.env := by rfl) (s2 : starEach [e2] X.env = (false, eval e2 X.env) :: starEach [] X.env := by rfl) :
    Ev K X Γ Φ (.Tuple [e1, e2] j pos) (.d (.tuple [x, y])) := ev_tup (ds := [x, y]) (eva_cons h1 (eva_cons h2 eva_nil s2) s1) (by simp)
theorem ev_tup4 {j : Nat} {x y z u : PyData} {e1 e2 e3 e4 : Expr} (h1 : Ev K X Γ Φ e1 (.d x)) (h2 : Ev K X Γ Φ e2 (.d y)) (h3 : Ev K X Γ Φ e3 (.d z)) (h4 : Ev K X Γ Φ e4 (.d u))
    (s1 : starEach [e1, e2, e3, e4] X.env = (false, eval e1 X.env) :: starEach [e2, e3, e4] X.env := by rfl) (s2 : starEach [e2, e3, e4] X.env = (false, eval e2 X.env) :: starEach [e3, e4] X.env := by rfl) (s3 : starEach [e3, e4] X.env = (false, eval e3 X.env) :: starEach [e4] X.env := by rfl) (s4 : starEach [e4] X.env = (false, eval e4 X.env) :: starEach [] X.env := by rfl) :
    Ev K X Γ Φ (.Tuple [e1, e2, e3, e4] j pos) (.d (.tuple [x, y, z, u])) := ev_tup (ds := [x, y, z, u]) (eva_cons h1 (eva_cons h2 (eva_cons h3 (eva_cons h4 eva_nil s4) s3) s2) s1) (by simp)
/-- (0,) * len(hall[1]) -/
theorem ev_zeros {h : Hl} {j1 j2 j3 : Nat} {p1 p2 p3 p4 p5 p6 p7 : Pos} {eh : Expr} (hX : In P w K mg base k X) (g : GlAt X "len") (hm : mg "len" = none) (ok : h.Ok) (hh : Ev K X Γ Φ eh (.d h.d)) : Ev K X Γ Φ (.BinOp (.Tuple [.Constant (.int 0) j1 p1] j2 p2) .Mult (.Call (.Name "len" p3) [.Subscript eh (.Constant (.int 1) j3 p4) p5] [] p6) p7) (.d (iT (none0 h))) := by
  have n1 := ok.n1
  have n4 := ok.n4
  have en : (List.replicate h.fs.length (PyData.int 0)) = (none0 h).map PyData.int := by unfold none0; rw [List.map_replicate]
  refine Ev.to (ev_repT (d := .int 0) (n := h.fs.length) hX (ev_tup (ds := [.int 0]) (eva_cons ev_int eva_nil) (by decide)) (Ev.to (ev_lenT hX g hm (ev_ixT hX hh ev_int rfl)) ?_) n1 (by omega)) ?_
  · rw [List.length_map]
  · unfold iT; rw [en]
/-! ### _law_begin_book -/
def beg (h : Hl) (r : Rl) : Stt := ⟨[⟨none, r, none0 h, 0⟩], []⟩
def spBegin (K : PySem.W.Frag) : Sp := fun vs H Q _ => ∃ (vh vr : V) (h : Hl) (r : Rl) (lc lg : Addr), vs = [vh, vr] ∧ h.Ok ∧ Dp K H vh h.d ∧ Dp K H vr r.d ∧ H lc ≠ none ∧ H lg ≠ none ∧
  ∀ (o : Addr) (H' : Hp), H o = none → Same H H' → OwAt K lc lg o (beg h r) H' → Q (.ref o) H'
theorem f_l_begin_book (tx : Tx mg) (F : FnF K mg "_law_begin_book" s_l_begin_book ["_law_hall_so", "_law_some"]) : EFn P w K mg base 1 "_law_begin_book" (spBegin K) := by
  refine efn_of F sc_l_begin_book (fun vs H Q E h => by obtain ⟨_, _, _, _, _, _, rfl, _⟩ := h; rfl) (fun X hX hgd hn vs H Q h => ?_) (fun vs H Q E h => h)
  have Vr := fun (j : Nat) {i : Nat} {x : Str} e => (tab_loc tb_l_begin_book hn (i := i) (x := x) j e).1
  have L := fun (j : Nat) {i : Nat} {x : Str} e => (tab_loc tb_l_begin_book hn (i := i) (x := x) j e).2
  have G := fun (j : Nat) {x : Str} e => tab_glo tb_l_begin_book hn (x := x) j e
  obtain ⟨vh, vr, h, r, lc, lg, rfl, ok, dh, dr, hlc, hlg, kk⟩ := h
  have n1 := ok.n1
  have n4 := ok.n4
  have s0 : Slots K (L2.start n_l_begin_book [vh, vr]) H (startS n_l_begin_book [.d h.d, .d r.d]) := startS_slots (.cons dh (.cons dr .nil))
  refine tb_pure (Φ := MP.top) (runS_set hX (L 2 rfl) (ev_zeros hX (G 0 rfl) tx.len ok (ev_var (Vr 0 rfl) rfl))) s0 trivial fun σ1 H1 e1 s1 => ?_
  refine tb_retE (te_disp2 (x1 := "past") (x2 := "later") (by decide) fun o ho => ?_)
  have eo := same_new (o := .dK []) ho
  refine ev_str.goT (s1.up eo) fun u1 H2 e2 h2 => te_lst (ta_cons (Ev.goT (ev_tup4 (ev_tup2 ev_non ev_non) (ev_var (Vr 1 rfl) rfl) (ev_var (Vr 2 rfl) rfl) ev_int) (s1.up (eo.trans e2)) fun v H3 e3 h3 => ta_nil ⟨by simp, fun l1 hl1 => ?_⟩))
  have el1 := same_new (o := .lst [v]) hl1
  refine ev_str.goT (s1.up (((eo.trans e2).trans e3).trans el1)) fun u2 H5 e5 h5 => te_lst (ta_nil ⟨by simp, fun l2 hl2 => ?_⟩)
  have el2 := same_new (o := .lst []) hl2
  have eA := ((e2.trans e3).trans el1).trans (e5.trans el2)
  have ho6 : upd H5 l2 (.lst []) o = some (.dK []) := eA _ _ upd_same
  refine ⟨dp_str h2, dp_str h5, ho6, ?_⟩
  have ho0 : H o = none := same_dn e1 ho
  have ne1 : l1 ≠ o := fun z => by
    have := (e2.trans e3) o (.dK []) upd_same
    rw [← z, hl1] at this; cases this
  have ne2 : l2 ≠ o := fun z => by
    have := (((e2.trans e3).trans el1).trans e5) o (.dK []) upd_same
    rw [← z, hl2] at this; cases this
  have ne12 : l1 ≠ l2 := fun z => by
    have := e5 l1 _ upd_same
    rw [z, hl2] at this; cases this
  have e13 : Same H H3 := (e1.trans eo).trans (e2.trans e3)
  have e15 : Same H H5 := (e13.trans el1).trans e5
  have fr1 : ∀ l, H l ≠ none → l1 ≠ l := fun l hl z => hl (by rw [← z]; exact same_dn e13 hl1)
  have fr2 : ∀ l, H l ≠ none → l2 ≠ l := fun l hl z => hl (by rw [← z]; exact same_dn e15 hl2)
  have eF : Same H (upd (upd H5 l2 (.lst [])) o (.dK [(.inr "past", .ref l1), (.inr "later", .ref l2)])) := same_up (e15.trans el2) ho0
  have tS : TupS (upd H5 l2 (.lst [])) (upd (upd H5 l2 (.lst [])) o (.dK [(.inr "past", .ref l1), (.inr "later", .ref l2)])) := (Fr.upd (T := []) (S := [o]) ho6 trivial (by simp)).tup
  refine kk o _ ho0 eF ⟨l1, l2, [v], [], upd_same, ?_, ?_, ?_, .nil, ?_, ?_⟩
  · rw [upd_ne ne1, upd_ne ne12]; exact e5 _ _ upd_same
  · rw [upd_ne ne2]; exact upd_same
  · exact .cons (dp_nl tS (nl_dO _) (dp_up (el1.trans (e5.trans el2)) h3)) .nil
  · simp only [List.mem_cons, List.not_mem_nil, or_false, not_or]
    exact ⟨fr1 lc hlc, fr1 lg hlg⟩
  · simp only [List.mem_cons, List.not_mem_nil, or_false, not_or]
    exact ⟨fr2 lc hlc, fr2 lg hlg⟩
/-! ### _law_keep -/
def spKeep (K : PySem.W.Frag) (T : List (Addr × Str)) : Sp := fun vs H Q _ => ∃ (lc lg o : Addr) (st : Stt) (d : Dd) (r : Rl) (c : List Int) (p : Int) (vd vr vc vp : V), vs = [.ref o, vd, vr, vc, vp] ∧ OwAt K lc lg o st H ∧ H lc ≠ none ∧ H lg ≠ none ∧ Dp K H vd d.d ∧ Dp K H vr r.d ∧ Dp K H vc (iT c) ∧ Dp K H vp (.int p) ∧ st.past.length ≤ 1000 ∧
  ∀ (H' : Hp), Fr T [o] H H' → OwAt K lc lg o ⟨st.past ++ [⟨some d, r, c, p⟩], []⟩ H' → Q .non H'
theorem f_l_keep (tx : Tx mg) (F : FnF K mg "_law_keep" s_l_keep ["_law_own", "_law_deed", "_law_some", "_law_sold_so", "_law_paid_so"]) : EFn P w K mg base 1 "_law_keep" (spKeep K T) := by
  refine efn_of F sc_l_keep (fun vs H Q E h => by obtain ⟨_, _, _, _, _, _, _, _, _, _, _, _, rfl, _⟩ := h; rfl) (fun X hX hgd hn vs H Q h => ?_) (fun vs H Q E h => h)
  have Vr := fun (j : Nat) {i : Nat} {x : Str} e => (tab_loc tb_l_keep hn (i := i) (x := x) j e).1
  obtain ⟨lc, lg, o, st, d, r, c, p, vd, vr, vc, vp, rfl, ho, hlc, hlg, dd, dr, dc, dp, hz, kk⟩ := h
  obtain ⟨l1, l2, xs, ys, hv⟩ := ho
  have s0 : Slots K (L2.start n_l_keep [.ref o, vd, vr, vc, vp]) H (startS n_l_keep [.r (.ref o), .d d.d, .d r.d, .d (iT c), .d (.int p)]) := startS_slots (.cons rfl (.cons dd (.cons dr (.cons dc (.cons dp .nil)))))
  have nG : nlG (startS n_l_keep [.r (.ref o), .d d.d, .d r.d, .d (iT c), .d (.int p)]) := nlG_r (nlG_d (nl_dd d) (nlG_d (nl_rl r) (nlG_d (nl_iT c) (nlG_d (nl_int p) nlG_nil))))
  refine tb_dput (kvs := [(.inr "past", .ref l1), (.inr "later", .ref l2)]) (d := o) (x := "past") hX (PEto (pe_op op_cat pe_sem pe_sem) ?_)
  refine (ev_past (Φ := OwVp K lc lg o l1 l2 xs ys st) hX (ev_var (Vr 0 rfl) rfl) ev_str (fun H q => q)).go s0 hv fun u H1 e1 h1 => te_lst (ta_cons (Ev.goT (ev_tup4 (ev_var (Vr 1 rfl) rfl) (ev_var (Vr 2 rfl) rfl) (ev_var (Vr 3 rfl) rfl) (ev_var (Vr 4 rfl) rfl)) (s0.up e1) fun v H2 e2 h2 => ta_nil ⟨by simp, fun q hq => ?_⟩))
  have eq := same_new (o := .lst [v]) hq
  have e0q := (e1.trans e2).trans eq
  have hvq := hv.up e0q
  cases (show u = V.ref l1 from h1)
  refine ⟨l1, q, xs, [v], rfl, rfl, hvq.2.1, upd_same, by rw [sizeLine_eq]; have := dps_len hv.2.2.2.1; simp at this ⊢; omega, fun p1 hp1 => ?_⟩
  have ep := same_new (o := .lst (xs ++ [v])) hp1
  have e0p := e0q.trans ep
  refine (ev_var (Vr 0 rfl) rfl).goT (s0.up e0p) fun u3 H3 e3 h3 => ev_str.goT (s0.up (e0p.trans e3)) fun u4 H4 e4 h4 => ?_
  have e04 := (e0p.trans e3).trans e4
  have hv4 := hv.up e04
  refine ⟨h3, dp_str h4, hv4.1, by simp, ?_⟩
  rw [show putK [((.inr "past" : Key), V.ref l1), ((.inr "later" : Key), V.ref l2)] (.inr "past") (.ref p1) = [(.inr "past", .ref p1), (.inr "later", .ref l2)] from rfl]
  have f5 : Fr T [o] H4 (upd H4 o (.dK [(.inr "past", .ref p1), (.inr "later", .ref l2)])) := Fr.upd hv4.1 trivial (by simp)
  have s5 := (s0.up e04).fr f5 nG
  have hp4 : H4 p1 = some (.lst (xs ++ [v])) := e4 _ _ (e3 _ _ upd_same)
  have nep : p1 ≠ o := fun z => by rw [z, hv4.1] at hp4; cases hp4
  have o5 : upd H4 o (.dK [(.inr "past", .ref p1), (.inr "later", .ref l2)]) o = some (.dK [(.inr "past", .ref p1), (.inr "later", .ref l2)]) := upd_same
  have p5 : upd H4 o (.dK [(.inr "past", .ref p1), (.inr "later", .ref l2)]) p1 = some (.lst (xs ++ [v])) := by rw [upd_ne nep]; exact hp4
  have d5 : DpAll K (upd H4 o (.dK [(.inr "past", .ref p1), (.inr "later", .ref l2)])) (xs ++ [v]) ((st.past ++ [Ent.mk (some d) r c p]).map Ent.dO) := by
    rw [List.map_append]
    exact dps_app (dps_nl f5.tup (nls_dO _) hv4.2.2.2.1) (.cons (dp_nl f5.tup (nl_dO _) (dp_up (((eq.trans ep).trans e3).trans e4) h2)) .nil)
  have back : ∀ l, upd H4 o (.dK [(.inr "past", .ref p1), (.inr "later", .ref l2)]) l = none → H l = none := fun l hl => by
    by_cases lo : l = o
    · rw [lo, o5] at hl; cases hl
    · rw [upd_ne lo] at hl
      exact same_dn e04 hl
  generalize upd H4 o (.dK [(.inr "past", .ref p1), (.inr "later", .ref l2)]) = H5 at f5 s5 o5 p5 d5 back ⊢
  refine tb_dput (kvs := [(.inr "past", .ref p1), (.inr "later", .ref l2)]) (d := o) (x := "later") hX (te_lst (ta_nil ⟨by simp, fun q2 hq2 => ?_⟩))
  have eq2 := same_new (o := .lst []) hq2
  refine (ev_var (Vr 0 rfl) rfl).goT (s5.up eq2) fun u6 H6 e6 h6 => ev_str.goT (s5.up (eq2.trans e6)) fun u7 H7 e7 h7 => ?_
  have e57 := (eq2.trans e6).trans e7
  refine ⟨h6, dp_str h7, e57 _ _ o5, by simp, ?_⟩
  rw [show putK [((.inr "past" : Key), V.ref p1), ((.inr "later" : Key), V.ref l2)] (.inr "later") (.ref q2) = [(.inr "past", .ref p1), (.inr "later", .ref q2)] from rfl]
  have f8 : Fr T [o] H7 (upd H7 o (.dK [(.inr "past", .ref p1), (.inr "later", .ref q2)])) := Fr.upd (e57 _ _ o5) trivial (by simp)
  have hq7 : H7 q2 = some (.lst []) := e7 _ _ (e6 _ _ upd_same)
  have neq : q2 ≠ o := fun z => by rw [z, e57 _ _ o5] at hq7; cases hq7
  refine tb_nil (kk _ ((Fr.same e04).trans (f5.trans ((Fr.same e57).trans f8))) ⟨p1, q2, xs ++ [v], [], upd_same, by rw [upd_ne nep]; exact e57 _ _ p5, by rw [upd_ne neq]; exact hq7, dps_nl f8.tup (nls_dO _) (dps_up e57 d5), .nil, ?_, ?_⟩)
  · simp only [List.mem_cons, List.not_mem_nil, or_false, not_or]
    have h0 : H p1 = none := same_dn e0q hp1
    exact ⟨fun z => hlc (by rw [← z]; exact h0), fun z => hlg (by rw [← z]; exact h0)⟩
  · simp only [List.mem_cons, List.not_mem_nil, or_false, not_or]
    have h0 : H q2 = none := back q2 hq2
    exact ⟨fun z => hlc (by rw [← z]; exact h0), fun z => hlg (by rw [← z]; exact h0)⟩
/-! ### _law_calls_in -/
def callsOf : List Ent → List Nat
  | [] => []
  | ⟨some (.call k), _, _, _⟩ :: r => k :: callsOf r
  | _ :: r => callsOf r
def isCall (e : Ent) : Bool := match e.dd with
  | some (.call _) => true
  | _ => false
def callK (e : Ent) : Nat := match e.dd with
  | some (.call k) => k
  | _ => 0
theorem callsOf_eq : ∀ l : List Ent, callsOf l = (l.filter isCall).map callK
  | [] => rfl
  | ⟨some (.call k), _, _, _⟩ :: r => by
    rw [List.filter_cons, if_pos (by rfl), List.map_cons, ← callsOf_eq r]; rfl
  | ⟨some (.give k), _, _, _⟩ :: r => by
    rw [List.filter_cons, if_neg (by simp [isCall]), ← callsOf_eq r]; rfl
  | ⟨some (.change k), _, _, _⟩ :: r => by
    rw [List.filter_cons, if_neg (by simp [isCall]), ← callsOf_eq r]; rfl
  | ⟨none, _, _, _⟩ :: r => by
    rw [List.filter_cons, if_neg (by simp [isCall]), ← callsOf_eq r]; rfl
/-- the deed's word, the deed's number -/
def ddW : Option Dd → PyData
  | none => .none
  | some (.call _) => .str "call"
  | some (.give _) => .str "give"
  | some (.change _) => .str "change"
def ddN : Option Dd → PyData
  | none => .none
  | some (.call k) => .int (k : Int)
  | some (.give k) => .int (k : Int)
  | some (.change r) => r.d
theorem ddW_shaped (d : Option Dd) : SeqAt.shaped (ddW d) = true := by
  rcases d with _ | (_ | _ | _)
  · show SeqAt.shaped PyData.none = true; decide +kernel
  · show SeqAt.shaped (PyData.str "call") = true; decide +kernel
  · show SeqAt.shaped (PyData.str "give") = true; decide +kernel
  · show SeqAt.shaped (PyData.str "change") = true; decide +kernel
theorem ddW_call (e : Ent) : PyData.eqv (ddW e.dd) (.str "call") = isCall e := by
  obtain ⟨d, r, c, p⟩ := e
  rcases d with _ | (_ | _ | _) <;> rfl
theorem ddO_eq (d : Option Dd) : ddO d = .tuple [ddW d, ddN d] := by
  cases d with
  | none => rfl
  | some d => cases d <;> rfl
def spCalls (K : PySem.W.Frag) : Sp := fun vs H Q _ => ∃ (lc lg o : Addr) (st : Stt), vs = [.ref o] ∧ OwAt K lc lg o st H ∧ st.past.length ≤ 1000 ∧ ∀ (v : V) (H' : Hp), Same H H' → Dp K H' v (rowD (callsOf st.past)) → Q v H'
theorem f_l_calls_in (tx : Tx mg) (F : FnF K mg "_law_calls_in" s_l_calls_in ["_law_own"]) : EFn P w K mg base 1 "_law_calls_in" (spCalls K) := by
  refine efn_of F sc_l_calls_in (fun vs H Q E h => by obtain ⟨_, _, _, _, rfl, _⟩ := h; rfl) (fun X hX hgd hn vs H Q h => ?_) (fun vs H Q E h => h)
  have Vr := fun (j : Nat) {i : Nat} {x : Str} e => (tab_loc tb_l_calls_in hn (i := i) (x := x) j e).1
  have G := fun (j : Nat) {x : Str} e => tab_glo tb_l_calls_in hn (x := x) j e
  obtain ⟨lc, lg, o, st, rfl, ho, hz, kk⟩ := h
  obtain ⟨l1, l2, xs, ys, hv⟩ := ho
  have s0 : Slots K (L2.start n_l_calls_in [.ref o]) H (startS n_l_calls_in [.r (.ref o)]) := startS_slots (.cons rfl .nil)
  refine tb_ret (Φ := OwVp K lc lg o l1 l2 xs ys st) (ev_tupleL hX (G 0 rfl) tx.tuple_ rfl
    (ev_lcF [("_law_some", 3), ("_law_sold_so", 4), ("_law_paid_so", 5), ("_law_word", 1), ("_law_k", 2)] [(3, "_law_some"), (4, "_law_sold_so"), (5, "_law_paid_so"), (1, "_law_word"), (2, "_law_k")] [] [] st.past Ent.dO isCall (fun e => ddN e.dd) hX hn (by decide +kernel)
      (evi_lst hX (ev_pastD hX (ev_var (Vr 0 rfl) rfl) ev_str fun H q => q))
      (fun e he => ⟨_, fun X' hX' B => ⟨(show TgOk K X' _ _ (.tuple [ddO e.dd, e.r.d, iT e.c, .int e.p]) _ _ from by
          rw [ddO_eq]
          exact tg_tup hX' (tgs_cons (tg_tup hX' (tgs_cons (tg_name hX'.nd (B.o 3 rfl).2 (by simp)) (tgs_cons (tg_name hX'.nd (B.o 4 rfl).2 (by simp)) tgs_nil)) rfl) (tgs_cons (tg_name hX'.nd (B.o 0 rfl).2 (by simp)) (tgs_cons (tg_name hX'.nd (B.o 1 rfl).2 (by simp)) (tgs_cons (tg_name hX'.nd (B.o 2 rfl).2 (by simp)) tgs_nil)))) rfl),
        evts_one (EvT.to (evt_eq hX' (ev_var (B.o 3 rfl).1 rfl) ev_str (ddW_shaped _) (by decide +kernel)) (ddW_call e)), fun _ => ev_var (B.o 4 rfl).1 rfl⟩⟩)
      (fun e _ q => by obtain ⟨dd, _, _, _⟩ := e; rcases dd with _ | (_ | _ | _) <;> first | exact nl_int _ | cases q) (by omega))) s0 hv fun v H1 e1 h1 => ?_
  refine kk v H1 e1 ?_
  have e2 : (st.past.filter isCall).map (fun e => ddN e.dd) = (callsOf st.past).map fun (k : Nat) => PyData.int (k : Int) := by
    rw [callsOf_eq, List.map_map]
    apply List.map_congr_left
    intro e he
    have := (List.mem_filter.mp he).2
    obtain ⟨dd, _, _, _⟩ := e
    rcases dd with _ | (_ | _ | _) <;> first | rfl | cases this
  unfold rowD
  rw [← e2]
  exact h1
/-! ### _law_twin_of -/
def spTwin (K : PySem.W.Frag) : Sp := fun vs H Q _ => ∃ (lc lg o : Addr) (st : Stt), vs = [.ref o] ∧ OwAt K lc lg o st H ∧ H lc ≠ none ∧ H lg ≠ none ∧ ∀ (q : Addr) (H' : Hp), H q = none → Same H H' → OwAt K lc lg q st H' → Q (.ref q) H'
theorem te_listL {l : Addr} {xs : List V} {Q : VK} (hX : In P w K mg base k X) (g : GlAt X "list") (hm : mg "list" = none) (ha : Ev K X Γ Φ e (.r (.ref l))) (hl : ∀ H, Φ.p H → H l = some (.lst xs)) (hs : Slots K σ H Γ) (hp : Φ.p H) (kk : ∀ (q : Addr) (H' : Hp), Same H H' → H' q = none → H' l = some (.lst xs) → Q (.ref q) (upd H' q (.lst xs)))
    (he : starEach [e] X.env = (false, eval e X.env) :: starEach [] X.env := by rfl) : tE X (.Call (.Name "list" p) [e] [] pos) σ H Q :=
  PEto (pe_callTy call_list_of g.1 (by rw [hX.mg]; exact hm) rfl pa_sem g.2.2 g.2.1 he rfl) (ta_cons (ha.go hs hp fun v H1 e1 h1 => ta_nil (by
    cases (show v = V.ref l from h1)
    have h2 := hl H1 (Φ.up e1 hp)
    exact ⟨l, xs, rfl, .inl (SqL.of h2), fun q hq => kk q H1 e1 hq h2⟩)) he)
theorem f_l_twin_of (tx : Tx mg) (F : FnF K mg "_law_twin_of" s_l_twin_of ["_law_own"]) : EFn P w K mg base 1 "_law_twin_of" (spTwin K) := by
  refine efn_of F sc_l_twin_of (fun vs H Q E h => by obtain ⟨_, _, _, _, rfl, _⟩ := h; rfl) (fun X hX hgd hn vs H Q h => ?_) (fun vs H Q E h => h)
  have Vr := fun (j : Nat) {i : Nat} {x : Str} e => (tab_loc tb_l_twin_of hn (i := i) (x := x) j e).1
  have G := fun (j : Nat) {x : Str} e => tab_glo tb_l_twin_of hn (x := x) j e
  obtain ⟨lc, lg, o, st, rfl, ho, hlc, hlg, kk⟩ := h
  obtain ⟨l1, l2, xs, ys, hv⟩ := ho
  have s0 : Slots K (L2.start n_l_twin_of [.ref o]) H (startS n_l_twin_of [.r (.ref o)]) := startS_slots (.cons rfl .nil)
  refine tb_retE (te_disp2 (x1 := "past") (x2 := "later") (by decide) fun q hq => ?_)
  have eq := same_new (o := .dK []) hq
  refine ev_str.goT (s0.up eq) fun u1 H1 e1 h1 => te_listL (Φ := OwVp K lc lg o l1 l2 xs ys st) hX (G 0 rfl) tx.list_ (ev_past hX (ev_var (Vr 0 rfl) rfl) ev_str fun H q => q) (fun H h => h.2.1) (s0.up (eq.trans e1)) (hv.up (eq.trans e1)) fun p1 H2 e2 hp1 h2 => ?_
  have ep1 := same_new (o := .lst xs) hp1
  have e02 := ((eq.trans e1).trans e2).trans ep1
  refine ev_str.goT (s0.up e02) fun u2 H3 e3 h3 => te_listL (Φ := OwVp K lc lg o l1 l2 xs ys st) hX (G 0 rfl) tx.list_ (ev_later hX (ev_var (Vr 0 rfl) rfl) ev_str fun H q => q) (fun H h => h.2.2.1) (s0.up (e02.trans e3)) (hv.up (e02.trans e3)) fun p2 H4 e4 hp2 h4 => ?_
  have ep2 := same_new (o := .lst ys) hp2
  have e04 := (e02.trans e3).trans e4
  have eq4 : Same (upd H q (.dK [])) (upd H4 p2 (.lst ys)) := (((e1.trans e2).trans ep1).trans (e3.trans e4)).trans ep2
  have hq4 : upd H4 p2 (.lst ys) q = some (.dK []) := eq4 _ _ upd_same
  refine ⟨dp_str h1, dp_str h3, hq4, ?_⟩
  have hp1' : upd H4 p2 (.lst ys) p1 = some (.lst xs) := ep2 _ _ (e4 _ _ (e3 _ _ upd_same))
  have ne1 : p1 ≠ q := fun z => by rw [z, hq4] at hp1'; cases hp1'
  have ne2 : p2 ≠ q := fun z => by rw [← z, upd_same] at hq4; cases hq4
  have hv4 := hv.up (e04.trans ep2)
  have tS : TupS (upd H4 p2 (.lst ys)) (upd (upd H4 p2 (.lst ys)) q (.dK [(.inr "past", .ref p1), (.inr "later", .ref p2)])) := (Fr.upd (T := []) (S := [q]) hq4 trivial (by simp)).tup
  refine kk q _ hq (same_up (e04.trans ep2) hq) ⟨p1, p2, xs, ys, upd_same, by rw [upd_ne ne1]; exact hp1', by rw [upd_ne ne2]; exact upd_same, dps_nl tS (nls_dO _) hv4.2.2.2.1, dps_nl tS (nls_dO _) hv4.2.2.2.2.1, ?_, ?_⟩
  · simp only [List.mem_cons, List.not_mem_nil, or_false, not_or]
    have h0 : H p1 = none := same_dn ((eq.trans e1).trans e2) hp1
    exact ⟨fun z => hlc (by rw [← z]; exact h0), fun z => hlg (by rw [← z]; exact h0)⟩
  · simp only [List.mem_cons, List.not_mem_nil, or_false, not_or]
    have h0 : H p2 = none := same_dn e04 hp2
    exact ⟨fun z => hlc (by rw [← z]; exact h0), fun z => hlg (by rw [← z]; exact h0)⟩
end
end BL
end

section
set_option Elab.async false
set_option linter.all false
set_option maxRecDepth 100000
set_option maxHeartbeats 4000000
/-! BMa: instances: fields, properties, methods, len, ==, !=. -/
/-! != by the own ==, of what the text holds -/
namespace BQ
open PySem PySem.Spec PyProof.Rows PySem.SeqAt
section
variable {prog : Program} {w : World} {A : Around} {E : Value → Shared → Prop} {s : Shared} {K : PySem.W.Frag} {x C f : Addr} {ox : Obj} {od : Option Obj} {b tb : Value}
theorem ne_fin (hu : A.units < cLine) (X : K.In s.heap) (I : PySem.W.InstAt s.heap x ox C od) (hs : PySem.W.findIn K (.ref C) "__eq__" = some (some (.ref f))) (hf : PySem.W.isFn K (.ref f) = true) {Q : Fin → Shared → Prop}
    (h : wpAny (model prog w) A (call (.ref f) [.ref x, b]) (fun v s' => ∃ r, v = .bool r ∧ Q (.done (.ret (.bool (!r)))) s') E s) : wpAny (model prog w) A (Builtin.«object.__ne__» ⟨[.ref x, b], []⟩) Q E s := by
  unfold Builtin.«object.__ne__»
  repeat (first
    | with_reducible refine wpAny_cRoomFor hu ?_
    | (refine wpAny_bind (m := callSpecialIfBound? (.ref x) (Str.ofString "__eq__") [b])
        (PySem.W.ifBound_K X I hs hf (wpAny_mono h (fun r s' hr => by
          obtain ⟨z, rfl, hq⟩ := hr
          repeat (first | exact hq | exact wpAny_pure hq | exact wpAny_truthy_bool hq | (refine wpAny_bind (m := truthy (.bool _)) (wpAny_truthy_bool ?_)) | wp_step)) fun _ _ e => e)))
    | wp_step)
theorem ifBound_objNe {M : Model} {args : List Value} {Q : Option Value → Shared → Prop} (X : K.In s.heap) (I : PySem.W.InstAt s.heap x ox C od) (hs : PySem.W.findIn K (.ref C) "__ne__" = some (some (.builtin "object.__ne__")))
    (h : wpAny M A (call (.builtin "object.__ne__") (.ref x :: args)) (fun v => Q (some v)) E s) : wpAny M A (callSpecialIfBound? (.ref x) "__ne__" args) Q E s := by
  simp only [callSpecialIfBound?, bindSpecialIfBound?]
  refine wpAny_holding (wpAny_bind (wpAny_bind (wpAny_bind (I.type.here ((PySem.W.looks_findIn X hs).here ?_)))))
  refine wpAny_bind (wpAny_askSetting (wpAny_ite ?_))
  have fin : wpAny M A (call (.builtin "object.__ne__") ([.ref x] ++ args) >>= fun v => pure (some v)) Q E s := wpAny_bind (wpAny_mono h (fun v s' h' => wpAny_pure h') fun _ _ h' => h')
  split
  · exact wpAny_bind (wpAny_of_eq (F.cmp_object.ne.bind _) (wpAny_pure (by exact fin)))
  · exact wpAny_tryCatch (wpAny_bind (wpAny_of_eq (F.cmp_object.ne.bind _) (wpAny_pure (by exact fin))))
/-- x != b, b an instance of the same class -/
theorem ne_K {Q : Value → Shared → Prop} (hu : A.units + 1 < cLine) (X : K.In s.heap) (I : PySem.W.InstAt s.heap x ox C od) (hb : PySem.W.Looks (model prog w) s.heap (typeOf b) (.ref C))
    (hm : PySem.W.mroIn K C (.type "object") = some true) (hn : PySem.W.findIn K (.ref C) "__ne__" = some (some (.builtin "object.__ne__"))) (hs : PySem.W.findIn K (.ref C) "__eq__" = some (some (.ref f))) (hf : PySem.W.isFn K (.ref f) = true)
    (h : wpAny (model prog w) A.in1 (call (.ref f) [.ref x, b]) (fun v s' => ∃ r, v = .bool r ∧ Q (.bool (!r)) s') E s) : wpAny (model prog w) A (richCompare .NotEq (.ref x) b) Q E s := by
  have one : wpAny (model prog w) A (tryCompare (.ref x) "__ne__" b) (fun r s' => ∃ v, r = some v ∧ Q v s') E s := by
    unfold tryCompare
    refine wpAny_bind (ifBound_objNe X I hn (wpAny_call (codeAny_call_builtin F.cmp_object.ne.plain F.cmpEntry_ne (PySem.W.check_slot F.cmpKind_ne F.cmpSplit_ne (I.type.andThen (PySem.W.looks_mroIn X hm)) (F.cmpArgs_ne _ _)
      (ne_fin (A := A.in1) hu X I hs hf (wpAny_mono h (fun v s' hv => ?_) fun _ _ e => e))))))
    obtain ⟨r, rfl, hq⟩ := hv
    exact ⟨r, rfl, wpAny_pure ⟨_, rfl, hq⟩⟩
  simp only [richCompare, cmpInfo_NotEq, oneThing_ref]
  refine wpAny_holding (wpAny_bind (wpAny_cRoomFor (by omega) ?_))
  refine wpAny_bind (I.type.here (wpAny_bind (hb.here ?_)))
  rw [show (Value.ref C != Value.ref C) = false from by simp]
  simp only [Bool.false_eq_true, if_false]
  refine wpAny_bind (wpAny_pure ?_)
  simp only [Bool.false_eq_true, if_false]
  refine wpAny_bind (wpAny_mono one (fun r s' z => ?_) fun _ _ e => e)
  obtain ⟨v, rfl, hq⟩ := z
  exact wpAny_pure hq
end
end BQ
namespace BL
open PySem PySem.Spec PyProof.Rows L2
/-! ### pure defs of any values -/
def spM (K : PySem.W.Frag) (R : List Sv → MP → Sv → Prop) : Sp := fun vs H Q _ => ∃ ss Φ s, SvAll K H vs ss ∧ Φ.p H ∧ R ss Φ s ∧ ∀ v H', Same H H' → s.ok K H' v → Q v H'
section
variable {P : Program} {w : World} {K : PySem.W.Frag} {mg : Str → Option Value} {base : Heap} {k : Nat}
variable {X : Cx} {Γ Γ' : Gm} {Φ : MP} {a b c e tg it : Expr} {es : List Expr} {pos p : Pos} {s t : Sv} {ss : List Sv} {σ : L2.St} {H : Hp} {D : Ends} {st : Stmt} {sts bd el : List Stmt} {C : Addr}
/-- a def of a class -/
structure MethF (K : PySem.W.Frag) (C : Addr) (m qual : Str) (st : Stmt) (ps : List Str) (f : Addr) (fd : FuncData) : Prop where
  fn : Fun K m qual st f fd
  bd : Binds K fd ps []
  mt : Meth K C m f
/-- THE RULE for a pure method -/
theorem pm_mk {x qual : Str} {N ps : List Str} {R : List Sv → MP → Sv → Prop} {f : Addr} {fd : FuncData} (F : Fun K x qual st f fd) (S : FnScope N ps (defScope st)) (hl : ∀ ss Φ s, R ss Φ s → ss.length = ps.length)
    (body : ∀ X, In P w K mg base k X → Nm N (defScope st) X → ∀ ss Φ s, R ss Φ s → Run K X (startS N ss) Φ (defBody st) (.rt s)) : FnOk P w K mg base CX0 (k + 1) f fd ps (spM K R) := by
  refine F.ok S (fun vs H Q E h => ?_) fun cdv A outer s H vs Q E hr h => ?_
  · obtain ⟨ss, Φ, s, h1, _, h2, _⟩ := h
    exact (SvAll.len h1).trans (hl ss Φ s h2)
  · obtain ⟨ss, Φ, s, h1, h2, h3, h4⟩ := h
    exact ⟨_, pb_sem, body _ (nm_inX hr S.nd) ⟨rfl, rfl, fun _ => rfl, PassesOwn.never⟩ ss Φ s h3 (L2.start N vs) H _ (startS_slots h1) h2 h4⟩
def IsI (C b : Addr) (fs : List (Str × V)) (H : Hp) : Prop := ∃ dx, H b = some (.ins C dx fs)
/-- e.f, a field -/
theorem ev_fld {f : Str} {x : Addr} {fs : List (Str × V)} {v : V} (hX : In P w K mg base k X) (c : Cls K C) (n : NoAttr K C f) (ha : Ev K X Γ Φ e (.r (.ref x))) (hi : ∀ H, Φ.p H → IsI C x fs H) (hl : fs.lookup f = some v) (hb : attributeBase e f X.env (eval e X.env) = eval e X.env := by rfl) : Ev K X Γ Φ (.Attribute e f pos) (.r v) := fun σ H Q hs hp kk =>
  PEto (pe_fld pe_sem hb) (ha σ H _ hs hp fun u H1 e1 h1 => by
    obtain ⟨dx, hd⟩ := hi H1 (Φ.up e1 hp)
    exact ⟨x, C, dx, fs, v, h1, hd, by rw [hX.K]; exact c, by rw [hX.K]; exact n, hl, kk v H1 e1 rfl⟩)
/-- e.f, a property -/
theorem ev_prop {f : Str} {x pa g : Addr} {fs : List (Str × V)} {fd : FuncData} {ps : List Str} {R : List Sv → MP → Sv → Prop} {j : Nat} (hX : In P w K mg base k X) (c : Cls K C) (hp' : PropOf K C f pa g) (F : FnOk P w K mg base CX0 j g fd ps (spM K R)) (bd : Binds K fd ps []) (hj : j + 1 ≤ k) (ha : Ev K X Γ Φ e (.r (.ref x)))
    (hi : ∀ H, Φ.p H → IsI C x fs H) (hR : R [.r (.ref x)] Φ s) (hb : attributeBase e f X.env (eval e X.env) = eval e X.env := by rfl) : Ev K X Γ Φ (.Attribute e f pos) s := fun σ H Q hs hp kk => by
  have F' : FnOk X.prog X.w X.K X.mg X.base CX0 j g fd ps (spM K R) := by rw [hX.prog, hX.w, hX.K, hX.mg, hX.base]; exact F
  refine PEto (pe_prop (CX := CX0) (E := E0) pe_sem (by rw [hX.K]; exact c) (by rw [hX.K]; exact hp') F' (hX.room.mono hj) (by rw [hX.K]; exact bd) .nil pass0 hb) (ha σ H _ hs hp fun u H1 e1 h1 => ?_)
  obtain ⟨dx, hd⟩ := hi H1 (Φ.up e1 hp)
  exact ⟨x, dx, fs, h1, hd, [.r (.ref x)], Φ, s, .cons rfl .nil, Φ.up e1 hp, hR, fun v H' e2 h2 => kk v H' (e1.trans e2) h2⟩
/-- e.m(), pure -/
theorem ev_meth0 {m : Str} {x f : Addr} {fs : List (Str × V)} {fd : FuncData} {ps : List Str} {R : List Sv → MP → Sv → Prop} {j : Nat} {apos : Pos} {pl : Sem Bool} (hX : In P w K mg base k X) (c : Cls K C) (hm : Meth K C m f) (F : FnOk P w K mg base CX0 j f fd ps (spM K R)) (bd : Binds K fd ps []) (hj : j ≤ k) (ha : Ev K X Γ Φ e (.r (.ref x)))
    (hi : ∀ H, Φ.p H → IsI C x fs H) (hl : fs.lookup m = none) (hR : R [.r (.ref x)] Φ s)
    (ht : eval (.Call (.Attribute e m apos) [] [] pos) X.env = (do
      let ov ← eval e X.env
      standAt apos.atName
      let (f, first) ← holding [ov] (getMethod ov m pl)
      callWith pos f first (backTo pos (starEach [] X.env)) (backToKw pos (keywordEach [] X.env))) := by rfl) : Ev K X Γ Φ (.Call (.Attribute e m apos) [] [] pos) s := fun σ H Q hs hp kk => by
  have F' : FnOk X.prog X.w X.K X.mg X.base CX0 j f fd ps (spM K R) := by rw [hX.prog, hX.w, hX.K, hX.mg, hX.base]; exact F
  refine PEto (pe_meth0 (CX := CX0) (E := E0) pe_sem (by rw [hX.K]; exact c) (by rw [hX.K]; exact hm) F' (hX.room.mono hj) (by rw [hX.K]; exact bd) .nil pass0 ht) (ha σ H _ hs hp fun u H1 e1 h1 => ?_)
  obtain ⟨dx, hd⟩ := hi H1 (Φ.up e1 hp)
  refine ⟨x, dx, fs, h1, hd, hl, ?_⟩
  show spM K R (u :: ([] ++ [])) H1 Q E0
  cases (show u = V.ref x from h1)
  exact ⟨[.r (.ref x)], Φ, s, .cons rfl .nil, Φ.up e1 hp, hR, fun v H' e2 h2 => kk v H' (e1.trans e2) h2⟩
/-- len(x), the own __len__ -/
theorem cr_lenI {f : Addr} {fd : FuncData} {ps : List Str} {R : List Sv → MP → Sv → Prop} {j : Nat} (F : FnOk X.prog X.w X.K X.mg X.base CX0 j f fd ps (spM X.K R)) (hr : Room (j + 1) X.A) (hs : PySem.W.findIn X.K (.ref C) "__len__" = some (some (.ref f))) (hf : PySem.W.isFn X.K (.ref f) = true) (bd : Binds X.K fd ps []) :
    CallR X (.builtin "len") (fun vs H Q => ∃ x fs Φ n, vs = [.ref x] ∧ IsI C x fs H ∧ Φ.p H ∧ R [.r (.ref x)] Φ (.d (.int n)) ∧ 0 ≤ n ∧ n < 2 ^ 40 ∧ ∀ H', Same H H' → Q (.int n) H') := by
  intro pins s σ H vs us Q I r h
  obtain ⟨x, fs, Φ, n, rfl, ⟨dx, hd⟩, hp, hR, n0, n1, q⟩ := h
  obtain ⟨u, rfl, ru⟩ := vals1 r
  cases (show u = Value.ref x from ru)
  obtain ⟨mA, O, _⟩ := ins_get I.hok hd
  obtain ⟨od, J, _⟩ := O.look
  obtain ⟨m, hF⟩ := I.fr
  refine PySem.W.len_K hF I.ok.mod.kin J hs hf ?_
  have hsp : spM X.K R [V.ref x] H (fun v H' => v = .int n ∧ Same H H') E0 := ⟨[.r (.ref x)], Φ, .d (.int n), .cons rfl .nil, hp, hR, fun v H' e h => ⟨dp_int h, e⟩⟩
  have hl := F.len _ _ _ _ hsp
  have hb' := bd s [.ref x] I.kIn (by simpa using hl)
  refine wpAny_call (codeAny_mono (F.run X.A.in1 X.stack s H ⟨[.ref x], []⟩ [.ref x] [.ref x] _ E0 hr.in1 I.env0.in1 (by simpa using hb') (.cons rfl .nil) hsp) fun r s' hq => ?_)
  cases r with
  | error er => exact False.elim hq
  | ok fl =>
    cases fl with
    | ret u =>
      obtain ⟨v, H', I3, rv, rfl, e3⟩ := I.after hq
      obtain ⟨t, rfl⟩ := rv
      exact ⟨⟨n0, by omega⟩, .int n, H', I3.tok _, ⟨_, rfl⟩, q H' e3⟩
    | next => exact False.elim hq
    | brk => exact False.elim hq
    | cont => exact False.elim hq
/-- the type of what stands on the right of == -/
inductive TyE (K : PySem.W.Frag) (C : Addr) (H : Hp) : V → Value → Prop where
  | non : TyE K C H .non (.type "NoneType")
  | int (i : Int) : TyE K C H (.int i) (.type "int")
  | tup {a : Addr} {xs : List V} (h : SqT K H a xs) : TyE K C H (.ref a) (.type "tuple")
  | ins {a : Addr} {fs : List (Str × V)} (h : IsI C a fs H) : TyE K C H (.ref a) (.ref C)
theorem looks_tyE {M : Model} {pins : List (Addr × Obj)} {s : Shared} {v : V} {u tb : Value} (I : Inv X pins σ H s) (r : RelV v u) (t : TyE X.K C H v tb) : PySem.W.Looks M s.heap (typeOf u) tb := by
  cases t with
  | non => cases r; exact PySem.W.Looks.of_pure rfl
  | int i => obtain ⟨t, rfl⟩ := r; exact PySem.W.Looks.of_pure rfl
  | tup h =>
    cases r
    obtain ⟨its, rv, ⟨o, ho, hc, _⟩, _⟩ := I.tuple h
    exact fun A Q E s k q => wpAny_typeOf_ref (k _ _ ho) (by rw [hc]; exact q)
  | ins h =>
    cases r
    obtain ⟨dx, hd⟩ := h
    obtain ⟨mA, O, _⟩ := ins_get I.hok hd
    obtain ⟨od, J, _⟩ := O.look
    exact J.type
theorem first_ty {T : String} (h : (fastBuiltinMro T).map (·.any fun v => match v with | .ref _ => true | _ => false) = some false) : PySem.W.notFirst K C (.type T) = true := by
  unfold PySem.W.notFirst
  have e : PySem.W.subIn K (.type T) (.ref C) = (fastBuiltinMro T).map (·.contains (.ref C)) := rfl
  rw [e]
  cases q : fastBuiltinMro T with
  | none => rw [q] at h; cases h
  | some l =>
    rw [q] at h
    have h' : (l.any fun v => match v with | .ref _ => true | _ => false) = false := Option.some.inj h
    have hc : l.contains (Value.ref C) = false := by
      rw [List.contains_eq_any_beq]
      rw [List.any_eq_false] at h' ⊢
      intro v hv hb
      have := eq_of_beq hb
      subst this
      exact h' _ hv rfl
    rw [Option.map_some, hc]
    simp
theorem first_same : PySem.W.notFirst K C (.ref C) = true := by unfold PySem.W.notFirst; simp
/-- a def that tells two things equal or not -/
def spE2 (K : PySem.W.Frag) (R : V → V → MP → Bool → Prop) : Sp := fun vs H Q _ => ∃ u v Φ r, vs = [u, v] ∧ Φ.p H ∧ R u v Φ r ∧ ∀ H', Same H H' → Q (.bl r) H'
/-- a == b, the own == of the left one -/
theorem op_eqI {f : Addr} {fd : FuncData} {ps : List Str} {R : V → V → MP → Bool → Prop} {j : Nat} (F : FnOk X.prog X.w X.K X.mg X.base CX0 j f fd ps (spE2 X.K R)) (hr : Room j X.A) (hs : PySem.W.findIn X.K (.ref C) "__eq__" = some (some (.ref f))) (hf : PySem.W.isFn X.K (.ref f) = true) (bd : Binds X.K fd ps []) :
    OpR X (compareOp .Eq) (fun u v H Q => ∃ x fs Φ r tb, u = .ref x ∧ IsI C x fs H ∧ TyE X.K C H v tb ∧ PySem.W.notFirst X.K C tb = true ∧ Φ.p H ∧ R u v Φ r ∧ ∀ H', Same H H' → Q (.bl r) H') := by
  intro pins s σ H u v u' v' Q I ru rv h
  obtain ⟨x, fs, Φ, r, tb, rfl, ⟨dx, hd⟩, ty, hn, hp, hR, q⟩ := h
  cases (show u' = Value.ref x from ru)
  obtain ⟨mA, O, _⟩ := ins_get I.hok hd
  obtain ⟨od, J, _⟩ := O.look
  obtain ⟨m, hF⟩ := I.fr
  have hb : PySem.W.Looks (model X.prog X.w) s.heap (typeOf v') tb := looks_tyE I rv ty
  show wpAny (model X.prog X.w) X.A (richCompare .Eq (.ref x) v') (EP X pins σ Q) X.xe s
  refine PySem.W.cmp_K (op := .Eq) hr.units0 hF I.ok.mod.kin J hb hn hs hf ?_
  have hsp : spE2 X.K R [V.ref x, v] H (fun z H' => z = .bl r ∧ Same H H') E0 := ⟨_, _, Φ, r, rfl, hp, hR, fun H' e => ⟨rfl, e⟩⟩
  have hl := F.len _ _ _ _ hsp
  have hb' := bd s [.ref x, v'] I.kIn (by simpa using hl)
  refine wpAny_call (codeAny_mono (F.run X.A X.stack s H ⟨[.ref x, v'], []⟩ [.ref x, v'] [.ref x, v] _ E0 hr I.env0 (by simpa using hb') (.cons rfl (.cons rv .nil)) hsp) fun z s' hq => ?_)
  cases z with
  | error er => exact False.elim hq
  | ok fl =>
    cases fl with
    | ret u =>
      obtain ⟨z, H', I3, rz, rfl, e3⟩ := I.after hq
      cases rz
      exact ⟨.bl r, H', I3, rfl, q H' e3⟩
    | next => exact False.elim hq
    | brk => exact False.elim hq
    | cont => exact False.elim hq
/-- a != b, both of the class -/
theorem op_neI {f : Addr} {fd : FuncData} {ps : List Str} {R : V → V → MP → Bool → Prop} {j : Nat} (F : FnOk X.prog X.w X.K X.mg X.base CX0 j f fd ps (spE2 X.K R)) (hr : Room (j + 1) X.A) (hs : PySem.W.findIn X.K (.ref C) "__eq__" = some (some (.ref f))) (hf : PySem.W.isFn X.K (.ref f) = true) (bd : Binds X.K fd ps [])
    (hm : PySem.W.mroIn X.K C (.type "object") = some true) (hne : PySem.W.findIn X.K (.ref C) "__ne__" = some (some (.builtin "object.__ne__"))) :
    OpR X (compareOp .NotEq) (fun u v H Q => ∃ x y fs gs Φ r, u = .ref x ∧ v = .ref y ∧ IsI C x fs H ∧ IsI C y gs H ∧ Φ.p H ∧ R u v Φ r ∧ ∀ H', Same H H' → Q (.bl (!r)) H') := by
  intro pins s σ H u v u' v' Q I ru rv h
  obtain ⟨x, y, fs, gs, Φ, r, rfl, rfl, ⟨dx, hd⟩, ⟨dy, hd2⟩, hp, hR, q⟩ := h
  cases (show u' = Value.ref x from ru)
  cases (show v' = Value.ref y from rv)
  obtain ⟨mA, O, _⟩ := ins_get I.hok hd
  obtain ⟨od, J, _⟩ := O.look
  obtain ⟨mB, O2, _⟩ := ins_get I.hok hd2
  obtain ⟨od2, J2, _⟩ := O2.look
  show wpAny (model X.prog X.w) X.A (richCompare .NotEq (.ref x) (.ref y)) (EP X pins σ Q) X.xe s
  refine BQ.ne_K (by have := hr.units; omega) I.kIn J J2.type hm hne hs hf ?_
  have hsp : spE2 X.K R [V.ref x, V.ref y] H (fun z H' => z = .bl r ∧ Same H H') E0 := ⟨_, _, Φ, r, rfl, hp, hR, fun H' e => ⟨rfl, e⟩⟩
  have hl := F.len _ _ _ _ hsp
  have hb' := bd s [.ref x, .ref y] I.kIn (by simpa using hl)
  refine wpAny_call (codeAny_mono (F.run X.A.in1 X.stack s H ⟨[.ref x, .ref y], []⟩ [.ref x, .ref y] [.ref x, .ref y] _ E0 hr.in1 I.env0.in1 (by simpa using hb') (.cons rfl (.cons rfl .nil)) hsp) fun z s' hq => ?_)
  cases z with
  | error er => exact False.elim hq
  | ok fl =>
    cases fl with
    | ret u =>
      obtain ⟨z, H', I3, rz, rfl, e3⟩ := I.after hq
      cases rz
      exact ⟨r, rfl, .bl (!r), H', I3, rfl, q H' e3⟩
    | next => exact False.elim hq
    | brk => exact False.elim hq
    | cont => exact False.elim hq
end
end BL
end

section
set_option Elab.async false
set_option linter.all false
set_option maxRecDepth 100000
set_option maxHeartbeats 4000000
/-! BMb: a book as it stands; what is read off it. -/
namespace BL
open PySem PySem.Spec PyProof.Rows L2
/-- the class Book as the text makes it -/
structure BookF (K : PySem.W.Frag) (mg : Str → Option Value) (C : Addr) : Prop where
  cls : Cls K C
  mg : mg "Book" = some (.ref C)
  nh : NoAttr K C "own_hall"
  np : NoAttr K C "past"
  nl : NoAttr K C "later"
  hall : ∃ pa g fd, PropOf K C "hall" pa g ∧ Fun K "hall" "Book.hall" s_Book_hall g fd ∧ Binds K fd ["self"] []
  rule : ∃ pa g fd, PropOf K C "rule" pa g ∧ Fun K "rule" "Book.rule" s_Book_rule g fd ∧ Binds K fd ["self"] []
  sold : ∃ pa g fd, PropOf K C "sold" pa g ∧ Fun K "sold" "Book.sold" s_Book_sold g fd ∧ Binds K fd ["self"] []
  paid : ∃ pa g fd, PropOf K C "paid" pa g ∧ Fun K "paid" "Book.paid" s_Book_paid g fd ∧ Binds K fd ["self"] []
  len : ∃ f fd, PySem.W.findIn K (.ref C) "__len__" = some (some (.ref f)) ∧ PySem.W.isFn K (.ref f) = true ∧ Fun K "__len__" "Book.__len__" s_Book___len f fd ∧ Binds K fd ["self"] []
  eq : ∃ f fd, PySem.W.findIn K (.ref C) "__eq__" = some (some (.ref f)) ∧ PySem.W.isFn K (.ref f) = true ∧ Fun K "__eq__" "Book.__eq__" s_Book___eq f fd ∧ Binds K fd ["self", "other"] []
  ne : PySem.W.findIn K (.ref C) "__ne__" = some (some (.builtin "object.__ne__"))
  mro : PySem.W.mroIn K C (.type "object") = some true
  calls : ∃ f fd, MethF K C "calls" "Book.calls" s_Book_calls ["self"] f fd
  got : ∃ f fd, MethF K C "got" "Book.got" s_Book_got ["self"] f fd
  regret : ∃ f fd, MethF K C "regret" "Book.regret" s_Book_regret ["self"] f fd
  init : ∃ f fd, Fun K "__init__" "Book.__init__" s_Book___init f fd ∧ Binds K fd ["self", "hall", "rule"] [] ∧ Mk K C f
  need_room : ∃ f fd, MethF K C "need_room" "Book.need_room" s_Book_need_room ["self"] f fd
  need_fare : ∃ f fd, MethF K C "need_fare" "Book.need_fare" s_Book_need_fare ["self", "fare"] f fd
  keep : ∃ f fd, MethF K C "keep" "Book.keep" s_Book_keep ["self", "one"] f fd
  call : ∃ f fd, MethF K C "call" "Book.call" s_Book_call ["self", "fare"] f fd
  give : ∃ f fd, MethF K C "give" "Book.give" s_Book_give ["self", "fare"] f fd
  change : ∃ f fd, MethF K C "change" "Book.change" s_Book_change ["self", "rule"] f fd
  undo : ∃ f fd, MethF K C "undo" "Book.undo" s_Book_undo ["self"] f fd
  redo : ∃ f fd, MethF K C "redo" "Book.redo" s_Book_redo ["self"] f fd
  copy : ∃ f fd, MethF K C "copy" "Book.copy" s_Book_copy ["self"] f fd
  trial : ∃ f fd, MethF K C "trial" "Book.trial" s_Book_trial ["self"] f fd
  isB : ∀ {a dx : Addr} {fs : List (Str × V)} {H : Hp}, H a = some (.ins C dx fs) → TyOf K H (.ref a) (.ref C)
  kB : PySem.W.kitOne K (.ref C) (.ref C) = some true
  kN : PySem.W.kitOne K (.type "NoneType") (.ref C) = some false
  kI : PySem.W.kitOne K (.type "int") (.ref C) = some false
  kT : PySem.W.kitOne K (.type "tuple") (.ref C) = some false
def fsB (v1 v2 v3 : V) : List (Str × V) := [("own_hall", v1), ("past", v2), ("later", v3)]
/-- the book at b -/
structure BkV (K : PySem.W.Frag) (C b : Addr) (h : Hl) (st : Stt) (v1 v2 v3 : V) (H : Hp) : Prop where
  i : IsI C b (fsB v1 v2 v3) H
  h : Dp K H v1 h.d
  p : Dp K H v2 (.tuple (st.past.map Ent.dB))
  l : Dp K H v3 (.tuple (st.later.map Ent.dB))
def BkAt (K : PySem.W.Frag) (C b : Addr) (h : Hl) (st : Stt) (H : Hp) : Prop := ∃ v1 v2 v3, BkV K C b h st v1 v2 v3 H
section
variable {K : PySem.W.Frag} {C b : Addr} {h : Hl} {st : Stt} {v1 v2 v3 : V} {H H' : Hp} {T : List (Addr × Str)} {S : List Addr}
theorem BkV.up (q : BkV K C b h st v1 v2 v3 H) (e : Same H H') : BkV K C b h st v1 v2 v3 H' := ⟨let ⟨dx, z⟩ := q.i; ⟨dx, e _ _ z⟩, dp_up e q.h, dp_up e q.p, dp_up e q.l⟩
theorem BkV.fr (q : BkV K C b h st v1 v2 v3 H) (f : Fr T S H H') (n : b ∉ S) : BkV K C b h st v1 v2 v3 H' :=
  ⟨let ⟨dx, z⟩ := q.i; ⟨dx, f.at z n⟩, dp_fr f (nl_hl h) q.h, dp_fr f (nl_tup (nls_dB _)) q.p, dp_fr f (nl_tup (nls_dB _)) q.l⟩
theorem BkAt.up (q : BkAt K C b h st H) (e : Same H H') : BkAt K C b h st H' := let ⟨v1, v2, v3, z⟩ := q; ⟨v1, v2, v3, z.up e⟩
theorem BkAt.fr (q : BkAt K C b h st H) (f : Fr T S H H') (n : b ∉ S) : BkAt K C b h st H' := let ⟨v1, v2, v3, z⟩ := q; ⟨v1, v2, v3, z.fr f n⟩
def BkVp (K : PySem.W.Frag) (C b : Addr) (h : Hl) (st : Stt) (v1 v2 v3 : V) : MP := ⟨BkV K C b h st v1 v2 v3, fun e q => q.up e⟩
end
theorem atI_last {α : Type} {l : List α} {x : α} (h : l.getLast? = some x) : atI l (-1) = some x := by
  cases l with
  | nil => cases h
  | cons a r =>
    unfold atI
    rw [show ixN (a :: r).length (-1) = some r.length from by unfold ixN; rw [if_neg (by decide), if_pos (by simp; omega)]; simp only [List.length_cons]; congr 1; push_cast; omega]
    rw [List.getLast?_eq_getElem?] at h
    have e : (-1 + ((a :: r).length : Int)).toNat = r.length := by simp only [List.length_cons]; omega
    simpa [e] using h
section
variable {P : Program} {w : World} {K : PySem.W.Frag} {mg : Str → Option Value} {base : Heap} {k : Nat}
variable {X : Cx} {Γ Γ' : Gm} {Φ : MP} {a b c e tg it : Expr} {es : List Expr} {pos p : Pos} {s t : Sv} {ss : List Sv} {σ : L2.St} {H : Hp} {D : Ends} {st : Stmt} {sts bd el : List Stmt} {C : Addr}
/-- what the promise Φ knows of the book at b -/
def Knows (K : PySem.W.Frag) (C : Addr) (Φ : MP) (b : Addr) (h : Hl) (st : Stt) (v1 v2 v3 : V) : Prop := ∀ H, Φ.p H → BkV K C b h st v1 v2 v3 H
theorem ev_hallF {b : Addr} {h : Hl} {st : Stt} {v1 v2 v3 : V} (hX : In P w K mg base k X) (B : BookF K mg C) (kn : Knows K C Φ b h st v1 v2 v3) (ha : Ev K X Γ Φ e (.r (.ref b))) (hb : attributeBase e "own_hall" X.env (eval e X.env) = eval e X.env := by rfl) : Ev K X Γ Φ (.Attribute e "own_hall" pos) (.d h.d) :=
  Ev.see (ev_fld (fs := fsB v1 v2 v3) (v := v1) hX B.cls B.nh ha (fun H q => (kn H q).i) rfl hb) fun H v q z => by cases (show v = v1 from z); exact (kn H q).h
theorem ev_pastF {b : Addr} {h : Hl} {st : Stt} {v1 v2 v3 : V} (hX : In P w K mg base k X) (B : BookF K mg C) (kn : Knows K C Φ b h st v1 v2 v3) (ha : Ev K X Γ Φ e (.r (.ref b))) (hb : attributeBase e "past" X.env (eval e X.env) = eval e X.env := by rfl) : Ev K X Γ Φ (.Attribute e "past" pos) (.d (.tuple (st.past.map Ent.dB))) :=
  Ev.see (ev_fld (fs := fsB v1 v2 v3) (v := v2) hX B.cls B.np ha (fun H q => (kn H q).i) rfl hb) fun H v q z => by cases (show v = v2 from z); exact (kn H q).p
theorem ev_laterF {b : Addr} {h : Hl} {st : Stt} {v1 v2 v3 : V} (hX : In P w K mg base k X) (B : BookF K mg C) (kn : Knows K C Φ b h st v1 v2 v3) (ha : Ev K X Γ Φ e (.r (.ref b))) (hb : attributeBase e "later" X.env (eval e X.env) = eval e X.env := by rfl) : Ev K X Γ Φ (.Attribute e "later" pos) (.d (.tuple (st.later.map Ent.dB))) :=
  Ev.see (ev_fld (fs := fsB v1 v2 v3) (v := v3) hX B.cls B.nl ha (fun H q => (kn H q).i) rfl hb) fun H v q z => by cases (show v = v3 from z); exact (kn H q).l
/-! ### properties -/
inductive R_get (K : PySem.W.Frag) (C : Addr) (g : Hl → Ent → PyData) : List Sv → MP → Sv → Prop where
  | mk (Φ : MP) (b : Addr) (h : Hl) (st : Stt) (v1 v2 v3 : V) (e : Ent) (kn : Knows K C Φ b h st v1 v2 v3) (he : st.past.getLast? = some e) : R_get K C g [.r (.ref b)] Φ (.d (g h e))
theorem ev_last {b : Addr} {h : Hl} {st : Stt} {v1 v2 v3 : V} {en : Ent} {j : Nat} {p1 p2 p3 : Pos} (hX : In P w K mg base k X) (B : BookF K mg C) (kn : Knows K C Φ b h st v1 v2 v3) (ha : Ev K X Γ Φ e (.r (.ref b))) (he : st.past.getLast? = some en) (hb : attributeBase e "past" X.env (eval e X.env) = eval e X.env := by rfl) :
    Ev K X Γ Φ (.Subscript (.Attribute e "past" p1) (.UnaryOp .USub (.Constant (.int 1) j p2) p3) pos) (.d en.dB) :=
  ev_ixT (ds := st.past.map Ent.dB) (i := -1) hX (ev_pastF hX B kn ha hb) (ev_neg ev_int) (atI_last (by rw [List.getLast?_map, he]; rfl)) (by exact fun _ _ => rfl)
theorem f_hall {g : Addr} {fd : FuncData} (B : BookF K mg C) (F : Fun K "hall" "Book.hall" s_Book_hall g fd) : FnOk P w K mg base CX0 1 g fd ["self"] (spM K (R_get K C fun h _ => h.d)) := by
  refine pm_mk F sc_Book_hall (fun ss Φ s h => by cases h; rfl) fun X hX hn ss Φ s h => ?_
  have Vr := fun (j : Nat) {i : Nat} {x : Str} e => (tab_loc tb_Book_hall hn (i := i) (x := x) j e).1
  cases h with
  | mk _ b h st v1 v2 v3 e kn he => exact run_one (runS_ret (ev_hallF hX B kn (ev_var (Vr 0 rfl) rfl)))
theorem f_rule {g : Addr} {fd : FuncData} (B : BookF K mg C) (F : Fun K "rule" "Book.rule" s_Book_rule g fd) : FnOk P w K mg base CX0 1 g fd ["self"] (spM K (R_get K C fun _ e => e.r.d)) := by
  refine pm_mk F sc_Book_rule (fun ss Φ s h => by cases h; rfl) fun X hX hn ss Φ s h => ?_
  have Vr := fun (j : Nat) {i : Nat} {x : Str} e => (tab_loc tb_Book_rule hn (i := i) (x := x) j e).1
  cases h with
  | mk _ b h st v1 v2 v3 e kn he => exact run_one (runS_ret (ev_ixT (ds := [ddB e.dd, e.r.d, iT e.c, .int e.p]) hX (ev_last hX B kn (ev_var (Vr 0 rfl) rfl) he) ev_int rfl))
theorem f_sold {g : Addr} {fd : FuncData} (B : BookF K mg C) (F : Fun K "sold" "Book.sold" s_Book_sold g fd) : FnOk P w K mg base CX0 1 g fd ["self"] (spM K (R_get K C fun _ e => iT e.c)) := by
  refine pm_mk F sc_Book_sold (fun ss Φ s h => by cases h; rfl) fun X hX hn ss Φ s h => ?_
  have Vr := fun (j : Nat) {i : Nat} {x : Str} e => (tab_loc tb_Book_sold hn (i := i) (x := x) j e).1
  cases h with
  | mk _ b h st v1 v2 v3 e kn he => exact run_one (runS_ret (ev_ixT (ds := [ddB e.dd, e.r.d, iT e.c, .int e.p]) hX (ev_last hX B kn (ev_var (Vr 0 rfl) rfl) he) ev_int rfl))
theorem f_paid {g : Addr} {fd : FuncData} (B : BookF K mg C) (F : Fun K "paid" "Book.paid" s_Book_paid g fd) : FnOk P w K mg base CX0 1 g fd ["self"] (spM K (R_get K C fun _ e => .int e.p)) := by
  refine pm_mk F sc_Book_paid (fun ss Φ s h => by cases h; rfl) fun X hX hn ss Φ s h => ?_
  have Vr := fun (j : Nat) {i : Nat} {x : Str} e => (tab_loc tb_Book_paid hn (i := i) (x := x) j e).1
  cases h with
  | mk _ b h st v1 v2 v3 e kn he => exact run_one (runS_ret (ev_ixT (ds := [ddB e.dd, e.r.d, iT e.c, .int e.p]) hX (ev_last hX B kn (ev_var (Vr 0 rfl) rfl) he) ev_int rfl))
section
variable {b : Addr} {h : Hl} {stt : Stt} {v1 v2 v3 : V} {en : Ent}
/-- b.hall, b.rule, b.sold, b.paid -/
theorem ev_bhall (hX : In P w K mg base k X) (B : BookF K mg C) (hj : 2 ≤ k) (kn : Knows K C Φ b h stt v1 v2 v3) (ha : Ev K X Γ Φ e (.r (.ref b))) (he : stt.past.getLast? = some en) (hb : attributeBase e "hall" X.env (eval e X.env) = eval e X.env := by rfl) : Ev K X Γ Φ (.Attribute e "hall" pos) (.d h.d) := by
  obtain ⟨pa, g, fd, h1, h2, h3⟩ := B.hall
  exact ev_prop (fs := fsB v1 v2 v3) hX B.cls h1 (f_hall B h2) h3 hj ha (fun H q => (kn H q).i) (.mk Φ b h stt v1 v2 v3 en kn he) hb
theorem ev_brule (hX : In P w K mg base k X) (B : BookF K mg C) (hj : 2 ≤ k) (kn : Knows K C Φ b h stt v1 v2 v3) (ha : Ev K X Γ Φ e (.r (.ref b))) (he : stt.past.getLast? = some en) (hb : attributeBase e "rule" X.env (eval e X.env) = eval e X.env := by rfl) : Ev K X Γ Φ (.Attribute e "rule" pos) (.d en.r.d) := by
  obtain ⟨pa, g, fd, h1, h2, h3⟩ := B.rule
  exact ev_prop (fs := fsB v1 v2 v3) hX B.cls h1 (f_rule B h2) h3 hj ha (fun H q => (kn H q).i) (.mk Φ b h stt v1 v2 v3 en kn he) hb
theorem ev_bsold (hX : In P w K mg base k X) (B : BookF K mg C) (hj : 2 ≤ k) (kn : Knows K C Φ b h stt v1 v2 v3) (ha : Ev K X Γ Φ e (.r (.ref b))) (he : stt.past.getLast? = some en) (hb : attributeBase e "sold" X.env (eval e X.env) = eval e X.env := by rfl) : Ev K X Γ Φ (.Attribute e "sold" pos) (.d (iT en.c)) := by
  obtain ⟨pa, g, fd, h1, h2, h3⟩ := B.sold
  exact ev_prop (fs := fsB v1 v2 v3) hX B.cls h1 (f_sold B h2) h3 hj ha (fun H q => (kn H q).i) (.mk Φ b h stt v1 v2 v3 en kn he) hb
theorem ev_bpaid (hX : In P w K mg base k X) (B : BookF K mg C) (hj : 2 ≤ k) (kn : Knows K C Φ b h stt v1 v2 v3) (ha : Ev K X Γ Φ e (.r (.ref b))) (he : stt.past.getLast? = some en) (hb : attributeBase e "paid" X.env (eval e X.env) = eval e X.env := by rfl) : Ev K X Γ Φ (.Attribute e "paid" pos) (.d (.int en.p)) := by
  obtain ⟨pa, g, fd, h1, h2, h3⟩ := B.paid
  exact ev_prop (fs := fsB v1 v2 v3) hX B.cls h1 (f_paid B h2) h3 hj ha (fun H q => (kn H q).i) (.mk Φ b h stt v1 v2 v3 en kn he) hb
end
/-! ### __len__, calls -/
inductive R_blen (K : PySem.W.Frag) (C : Addr) : List Sv → MP → Sv → Prop where
  | mk (Φ : MP) (b : Addr) (h : Hl) (st : Stt) (v1 v2 v3 : V) (kn : Knows K C Φ b h st v1 v2 v3) : R_blen K C [.r (.ref b)] Φ (.d (.int ((st.past.length - 1 : Nat) : Int)))
theorem f_len {g : Addr} {fd : FuncData} (tx : Tx mg) (B : BookF K mg C) (F : Fun K "__len__" "Book.__len__" s_Book___len g fd) : FnOk P w K mg base CX0 1 g fd ["self"] (spM K (R_blen K C)) := by
  refine pm_mk F sc_Book___len (fun ss Φ s h => by cases h; rfl) fun X hX hn ss Φ s h => ?_
  have Vr := fun (j : Nat) {i : Nat} {x : Str} e => (tab_loc tb_Book___len hn (i := i) (x := x) j e).1
  have G := fun (j : Nat) {x : Str} e => tab_glo tb_Book___len hn (x := x) j e
  cases h with
  | mk _ b h st v1 v2 v3 kn =>
    refine run_one (runS_ret (Ev.to (ev_lenT hX (G 0 rfl) tx.len (ev_slT (l := some ((1 : Nat) : Int)) (u := none) hX (ev_pastF hX B kn (ev_var (Vr 0 rfl) rfl)) ev_int trivial)) ?_))
    rw [cutG_from, List.length_drop, List.length_map]
/-- len(b) -/
theorem ev_blen {b : Addr} {h : Hl} {stt : Stt} {v1 v2 v3 : V} (hX : In P w K mg base k X) (tx : Tx mg) (B : BookF K mg C) (g : GlAt X "len") (hj : 2 ≤ k) (kn : Knows K C Φ b h stt v1 v2 v3) (hz : stt.past.length ≤ 1000) (ha : Ev K X Γ Φ e (.r (.ref b))) (he : starEach [e] X.env = (false, eval e X.env) :: starEach [] X.env := by rfl) :
    Ev K X Γ Φ (.Call (.Name "len" p) [e] [] pos) (.d (.int ((stt.past.length - 1 : Nat) : Int))) := by
  obtain ⟨f, fd, h1, h2, h3, h4⟩ := B.len
  have F : FnOk X.prog X.w X.K X.mg X.base CX0 1 f fd ["self"] (spM X.K (R_blen K C)) := by
    rw [hX.prog, hX.w, hX.K, hX.mg, hX.base]; exact f_len tx B h3
  refine ev_callB hX g (cr_lenI F (hX.room.mono hj) (by rw [hX.K]; exact h1) (by rw [hX.K]; exact h2) (by rw [hX.K]; exact h4)) tx.len PySem.boot_len (eva_cons ha eva_nil he) (fun vs H Q hv hp kk => ?_) he
  rcases hv with _ | ⟨hv, hv'⟩
  cases hv'
  rename_i v
  cases (show v = V.ref b from hv)
  exact ⟨b, fsB v1 v2 v3, Φ, _, rfl, (kn H hp).i, hp, .mk Φ b h stt v1 v2 v3 kn, by omega, by omega, fun H' e' => kk _ H' e' (.int _)⟩
inductive R_bcalls (K : PySem.W.Frag) (C : Addr) : List Sv → MP → Sv → Prop where
  | mk (Φ : MP) (b : Addr) (h : Hl) (st : Stt) (v1 v2 v3 : V) (kn : Knows K C Φ b h st v1 v2 v3) (hz : st.past.length ≤ 1000) (tl : ∀ e ∈ st.past.tail, e.dd ≠ none) : R_bcalls K C [.r (.ref b)] Φ (.d (rowD (callsOf st.past.tail)))
theorem f_bcalls {g : Addr} {fd : FuncData} (tx : Tx mg) (B : BookF K mg C) (F : Fun K "calls" "Book.calls" s_Book_calls g fd) : FnOk P w K mg base CX0 1 g fd ["self"] (spM K (R_bcalls K C)) := by
  refine pm_mk F sc_Book_calls (fun ss Φ s h => by cases h; rfl) fun X hX hn ss Φ s h => ?_
  have Vr := fun (j : Nat) {i : Nat} {x : Str} e => (tab_loc tb_Book_calls hn (i := i) (x := x) j e).1
  have G := fun (j : Nat) {x : Str} e => tab_glo tb_Book_calls hn (x := x) j e
  cases h with
  | mk _ b h st v1 v2 v3 kn hz tl =>
    have two : ∀ e ∈ st.past.tail, ddB e.dd = .tuple [ddW e.dd, ddN e.dd] := fun e he => by
      have := tl e he
      obtain ⟨dd, _, _, _⟩ := e
      rcases dd with _ | d
      · exact absurd rfl this
      · exact ddO_eq (some d)
    have e2 : (st.past.tail.filter isCall).map (fun e => ddN e.dd) = (callsOf st.past.tail).map fun (k : Nat) => PyData.int (k : Int) := by
      rw [callsOf_eq, List.map_map]
      apply List.map_congr_left
      intro e he
      have := (List.mem_filter.mp he).2
      obtain ⟨dd, _, _, _⟩ := e
      rcases dd with _ | (_ | _ | _) <;> first | rfl | cases this
    unfold rowD
    rw [← e2]
    exact run_one (runS_ret (ev_tupleL hX (G 0 rfl) tx.tuple_ rfl
      (ev_lcF [("deed", 1), ("rule", 2), ("sold", 3), ("paid", 4)] [(1, "deed"), (2, "rule"), (3, "sold"), (4, "paid")] [] ["CALL"] st.past.tail Ent.dB isCall (fun e => ddN e.dd) hX hn (by decide +kernel)
        (EvI.to (evi_tup hX (ev_slT (l := some ((1 : Nat) : Int)) (u := none) hX (ev_pastF hX B kn (ev_var (Vr 0 rfl) rfl)) ev_int trivial)) (by rw [cutG_from, ← List.map_drop, List.drop_one]))
        (fun e he => ⟨_, fun X' hX' B' => ⟨(show TgOk K X' _ _ (.tuple [ddB e.dd, e.r.d, iT e.c, .int e.p]) _ _ from
            tg_tup hX' (tgs_cons (tg_name hX'.nd (B'.o 0 rfl).2 (by simp)) (tgs_cons (tg_name hX'.nd (B'.o 1 rfl).2 (by simp)) (tgs_cons (tg_name hX'.nd (B'.o 2 rfl).2 (by simp)) (tgs_cons (tg_name hX'.nd (B'.o 3 rfl).2 (by simp)) tgs_nil)))) rfl),
          evts_one (EvT.to (evt_eq hX' (ev_ixT (ds := [ddW e.dd, ddN e.dd]) hX' (ev_var (B'.o 0 rfl).1 (by rw [← two e he]; rfl)) ev_int rfl) (ev_gstr hX' (B'.g 0 rfl) tx.call) (ddW_shaped _) (by decide +kernel)) (ddW_call e)), fun _ => ev_ixT (ds := [ddW e.dd, ddN e.dd]) hX' (ev_var (B'.o 0 rfl).1 (by rw [← two e he]; rfl)) ev_int rfl⟩⟩)
        (fun e _ q => by obtain ⟨dd, _, _, _⟩ := e; rcases dd with _ | (_ | _ | _) <;> first | exact nl_int _ | cases q) (by rw [List.length_tail]; omega))))
end
end BL
end

section
set_option Elab.async false
set_option linter.all false
set_option maxRecDepth 100000
set_option maxHeartbeats 4000000
/-! BMc: got, regret, what is needed; methods with effects: keep, __init__. -/
namespace BL
open PySem PySem.Spec PyProof.Rows L2
section
variable {P : Program} {w : World} {K : PySem.W.Frag} {mg : Str → Option Value} {base : Heap} {k : Nat} {T : List (Addr × Str)}
variable {X : Cx} {Γ Γ' : Gm} {Φ : MP} {a b c e tg it : Expr} {es : List Expr} {pos p : Pos} {s t : Sv} {ss : List Sv} {σ : L2.St} {H : Hp} {D : Ends} {st : Stmt} {sts bd el : List Stmt} {C : Addr}
/-! ### got, regret -/
inductive R_got (K : PySem.W.Frag) (C : Addr) : List Sv → MP → Sv → Prop where
  | mk (Φ : MP) (b : Addr) (h : Hl) (st : Stt) (v1 v2 v3 : V) (e : Ent) (kn : Knows K C Φ b h st v1 v2 v3) (he : st.past.getLast? = some e) (ok : h.Ok) (so : e.c.length = h.fs.length) : R_got K C [.r (.ref b)] Φ (.d (.int (worth h e.c - e.p)))
theorem f_got {g : Addr} {fd : FuncData} (B : BookF K mg C) (F : Fun K "got" "Book.got" s_Book_got g fd) (Fw : PFn P w K mg base 1 "worth_of" R_worth) : FnOk P w K mg base CX0 3 g fd ["self"] (spM K (R_got K C)) := by
  refine pm_mk F sc_Book_got (fun ss Φ s h => by cases h; rfl) fun X hX hn ss Φ s h => ?_
  have Vr := fun (j : Nat) {i : Nat} {x : Str} e => (tab_loc tb_Book_got hn (i := i) (x := x) j e).1
  have G := fun (j : Nat) {x : Str} e => tab_glo tb_Book_got hn (x := x) j e
  cases h with
  | mk _ b h st v1 v2 v3 e kn he ok so =>
    exact run_one (runS_ret (ev_sub (ev_call (ds := [h.d, iT e.c]) hX Fw (G 0 rfl) (by decide) (eva_cons (ev_hallF hX B kn (ev_var (Vr 0 rfl) rfl)) (eva_cons (ev_bsold hX B (by decide) kn (ev_var (Vr 0 rfl) rfl) he) eva_nil)) (.mk h e.c ok so)) (ev_bpaid hX B (by decide) kn (ev_var (Vr 0 rfl) rfl) he)))
inductive R_regret (K : PySem.W.Frag) (C : Addr) : List Sv → MP → Sv → Prop where
  | mk (Φ : MP) (b : Addr) (h : Hl) (st : Stt) (v1 v2 v3 : V) (e : Ent) (kn : Knows K C Φ b h st v1 v2 v3) (he : st.past.getLast? = some e) (ok : h.Ok) (so : e.c.length = h.fs.length) (hz : st.past.length ≤ 1000) (tl : ∀ e ∈ st.past.tail, e.dd ≠ none) (ro : RowOk h (callsOf st.past.tail)) :
    R_regret K C [.r (.ref b)] Φ (.d (.int (worth h (seenF h (none0 h) (callsOf st.past.tail)) - (worth h e.c - e.p))))
theorem f_regret {g : Addr} {fd : FuncData} (tx : Tx mg) (B : BookF K mg C) (F : Fun K "regret" "Book.regret" s_Book_regret g fd) (Fw : PFn P w K mg base 1 "worth_of" R_worth) (Fh : PFn P w K mg base 5 "hindsight" R_hind) : FnOk P w K mg base CX0 6 g fd ["self"] (spM K (R_regret K C)) := by
  refine pm_mk F sc_Book_regret (fun ss Φ s h => by cases h; rfl) fun X hX hn ss Φ s h => ?_
  have Vr := fun (j : Nat) {i : Nat} {x : Str} e => (tab_loc tb_Book_regret hn (i := i) (x := x) j e).1
  have G := fun (j : Nat) {x : Str} e => tab_glo tb_Book_regret hn (x := x) j e
  cases h with
  | mk _ b h st v1 v2 v3 e kn he ok so hz tl ro =>
    obtain ⟨fc, fcd, mc⟩ := B.calls
    obtain ⟨fg, fgd, mg'⟩ := B.got
    exact run_one (runS_ret (ev_sub (ev_call (ds := [h.d, rowD (callsOf st.past.tail)]) hX Fh (G 0 rfl) (by decide) (eva_cons (ev_hallF hX B kn (ev_var (Vr 0 rfl) rfl)) (eva_cons
      (ev_meth0 (fs := fsB v1 v2 v3) (j := 1) hX B.cls mc.mt (f_bcalls tx B mc.fn) mc.bd (by decide) (ev_var (Vr 0 rfl) rfl) (fun H q => (kn H q).i) rfl (.mk Φ b h st v1 v2 v3 kn hz tl)) eva_nil)) (.mk h _ ok ro))
      (ev_meth0 (fs := fsB v1 v2 v3) (j := 3) hX B.cls mg'.mt (f_got B mg'.fn Fw) mg'.bd (by decide) (ev_var (Vr 0 rfl) rfl) (fun H q => (kn H q).i) rfl (.mk Φ b h st v1 v2 v3 e kn he ok so))))
/-! ### what is needed -/
/-- e.m(x, ..), pure -/
theorem ev_meth {m : Str} {x f : Addr} {fs : List (Str × V)} {fd : FuncData} {ps : List Str} {R : List Sv → MP → Sv → Prop} {j : Nat} {apos : Pos} {pl : Sem Bool} (hX : In P w K mg base k X) (c : Cls K C) (hm : Meth K C m f) (F : FnOk P w K mg base CX0 j f fd ps (spM K R)) (bd : Binds K fd ps []) (hj : j ≤ k) (ha : Ev K X Γ Φ e (.r (.ref x)))
    (hs' : EvA K X Γ Φ (a :: es) ss) (hi : ∀ H, Φ.p H → IsI C x fs H) (hl : fs.lookup m = none) (hR : R (.r (.ref x) :: ss) Φ s)
    (hst : starEach (a :: es) X.env = (false, eval a X.env) :: starEach es X.env := by rfl) (hpl : (backTo pos (starEach es X.env)).any (·.1) = false := by rfl)
    (ht : eval (.Call (.Attribute e m apos) (a :: es) [] pos) X.env = (do
      let ov ← eval e X.env
      standAt apos.atName
      let (f, first) ← holding [ov] (getMethod ov m pl)
      callWith pos f first (backTo pos (starEach (a :: es) X.env)) (backToKw pos (keywordEach [] X.env))) := by rfl) : Ev K X Γ Φ (.Call (.Attribute e m apos) (a :: es) [] pos) s := fun σ H Q hs hp kk => by
  have F' : FnOk X.prog X.w X.K X.mg X.base CX0 j f fd ps (spM K R) := by rw [hX.prog, hX.w, hX.K, hX.mg, hX.base]; exact F
  refine PEto (pe_meth (CX := CX0) (E := E0) pe_sem (by rw [hX.K]; exact c) (by rw [hX.K]; exact hm) F' (hX.room.mono hj) (by rw [hX.K]; exact bd) .nil pass0 pa_sem hst hpl ht) (ha σ H _ hs hp fun u H1 e1 h1 => ?_)
  obtain ⟨dx, hd⟩ := hi H1 (Φ.up e1 hp)
  refine ⟨x, dx, fs, h1, hd, hl, hs' σ H1 _ (hs.up e1) (Φ.up e1 hp) fun us H2 e2 h2 => ?_⟩
  cases (show u = V.ref x from h1)
  refine ⟨.r (.ref x) :: ss, Φ, s, .cons rfl (by rw [List.append_nil]; exact h2), Φ.up e2 (Φ.up e1 hp), hR, fun v H' e3 h3 => kk v H' (e1.trans (e2.trans e3)) h3⟩
inductive R_room (K : PySem.W.Frag) (C : Addr) : List Sv → MP → Sv → Prop where
  | mk (Φ : MP) (b : Addr) (h : Hl) (st : Stt) (v1 v2 v3 : V) (kn : Knows K C Φ b h st v1 v2 v3) (hz : st.past.length ≤ 400) : R_room K C [.r (.ref b)] Φ (.d .none)
theorem f_need_room {g : Addr} {fd : FuncData} (tx : Tx mg) (B : BookF K mg C) (F : Fun K "need_room" "Book.need_room" s_Book_need_room g fd) : FnOk P w K mg base CX0 3 g fd ["self"] (spM K (R_room K C)) := by
  refine F.ok sc_Book_need_room (fun vs H Q E h => ?_) fun cdv A outer s H vs Q E hr h => ?_
  · obtain ⟨ss, Φ, s, h1, _, h2, _⟩ := h
    refine (SvAll.len h1).trans ?_
    cases h2
    rfl
  · obtain ⟨ss, Φ, s', h1, h2, h3, h4⟩ := h
    refine ⟨_, pb_sem, ?_⟩
    have hX : In P w K mg base 2 (cxOf CX0 P w K mg base n_Book_need_room "Book.need_room" (defScope s_Book_need_room) g cdv A outer s H E).nox := nm_inX hr sc_Book_need_room.nd
    have hn : Nm n_Book_need_room (defScope s_Book_need_room) (cxOf CX0 P w K mg base n_Book_need_room "Book.need_room" (defScope s_Book_need_room) g cdv A outer s H E).nox := ⟨rfl, rfl, fun _ => rfl, PassesOwn.never⟩
    generalize (cxOf CX0 P w K mg base n_Book_need_room "Book.need_room" (defScope s_Book_need_room) g cdv A outer s H E).nox = X at hX hn ⊢
    have Vr := fun (j : Nat) {i : Nat} {x : Str} e => (tab_loc tb_Book_need_room hn (i := i) (x := x) j e).1
    have G := fun (j : Nat) {x : Str} e => tab_glo tb_Book_need_room hn (x := x) j e
    cases h3 with
    | mk _ b h st v1 v2 v3 kn hz =>
      refine tb_ifP (Φ := Φ) (x := false) (EvT.to (evt_eq hX (ev_blen hX tx B (G 0 rfl) (by decide) kn (by omega) (ev_var (Vr 0 rfl) rfl)) (ev_gint hX (G 1 rfl) tx.deeds)) (by rw [eqv_int, decide_eq_false_iff_not]; omega)) (startS_slots h1) h2 (fun z => nomatch z) fun _ H' e' => ?_
      exact tb_nil (tb_nil (h4 _ H' e' .non))
end
end BL
end

section
set_option Elab.async false
set_option linter.all false
set_option maxRecDepth 100000
set_option maxHeartbeats 4000000
/-! BMd: methods with effects: keep, __init__, call, give, change, undo, redo. -/
namespace BL
open PySem PySem.Spec PyProof.Rows L2
section
variable {P : Program} {w : World} {K : PySem.W.Frag} {mg : Str → Option Value} {base : Heap} {k : Nat} {T : List (Addr × Str)}
variable {X : Cx} {Γ Γ' : Gm} {Φ : MP} {a b c e tg it : Expr} {es : List Expr} {pos p : Pos} {s t : Sv} {ss : List Sv} {σ : L2.St} {H : Hp} {D : Ends} {st : Stmt} {sts bd el : List Stmt} {C : Addr}
/-- THE RULE for a method that has effects -/
theorem em_mk {x qual : Str} {N ps : List Str} {sp : Sp} {f : Addr} {fd : FuncData} (F : Fun K x qual st f fd) (S : FnScope N ps (defScope st)) (hl : ∀ vs H Q E, sp vs H Q E → vs.length = ps.length)
    (body : ∀ X, In P w K mg base k X → Nm N (defScope st) X → ∀ vs H Q, sp vs H Q E0 → tB X (defBody st) { nx := fun _ H' => Q .non H', rt := Q } (L2.start N vs) H) (hE : ∀ vs H Q E, sp vs H Q E → sp vs H Q E0) : FnOk P w K mg base CX0 (k + 1) f fd ps sp :=
  F.ok S hl fun cdv A outer s H vs Q E hr h => ⟨_, pb_sem, body _ (nm_inX hr S.nd) ⟨rfl, rfl, fun _ => rfl, PassesOwn.never⟩ vs H Q (hE _ _ _ _ h)⟩
/-- e.m(..), with effects -/
theorem te_meth {m : Str} {x f : Addr} {fs : List (Str × V)} {fd : FuncData} {ps : List Str} {sp : Sp} {j : Nat} {apos : Pos} {pl : Sem Bool} {Q : VK} (hX : In P w K mg base k X) (c : Cls K C) (hm : Meth K C m f) (F : FnOk P w K mg base CX0 j f fd ps sp) (bd : Binds K fd ps []) (hj : j ≤ k) (ha : Ev K X Γ Φ e (.r (.ref x)))
    (hs : Slots K σ H Γ) (hp : Φ.p H) (hi : ∀ H, Φ.p H → IsI C x fs H) (hl : fs.lookup m = none) (h : ∀ H1, Same H H1 → tA X (a :: es) σ H1 fun vs H2 => sp (.ref x :: vs) H2 Q E0)
    (hst : starEach (a :: es) X.env = (false, eval a X.env) :: starEach es X.env := by rfl) (hpl : (backTo pos (starEach es X.env)).any (·.1) = false := by rfl)
    (ht : eval (.Call (.Attribute e m apos) (a :: es) [] pos) X.env = (do
      let ov ← eval e X.env
      standAt apos.atName
      let (f, first) ← holding [ov] (getMethod ov m pl)
      callWith pos f first (backTo pos (starEach (a :: es) X.env)) (backToKw pos (keywordEach [] X.env))) := by rfl) : tE X (.Call (.Attribute e m apos) (a :: es) [] pos) σ H Q := by
  have F' : FnOk X.prog X.w X.K X.mg X.base CX0 j f fd ps sp := by rw [hX.prog, hX.w, hX.K, hX.mg, hX.base]; exact F
  refine PEto (pe_meth (CX := CX0) (E := E0) pe_sem (by rw [hX.K]; exact c) (by rw [hX.K]; exact hm) F' (hX.room.mono hj) (by rw [hX.K]; exact bd) .nil pass0 pa_sem hst hpl ht) (ha σ H _ hs hp fun u H1 e1 h1 => ?_)
  obtain ⟨dx, hd⟩ := hi H1 (Φ.up e1 hp)
  cases (show u = V.ref x from h1)
  refine ⟨x, dx, fs, rfl, hd, hl, ?_⟩
  have q := h H1 e1
  refine ⟨fun pos pins s I => wpAny_mono (q.run pos pins s I) (fun _ _ ⟨vs, H', I', r, q⟩ => ⟨vs, H', I', r, by simp only [List.append_nil]; exact q⟩) fun _ _ z => z⟩
/-- e.m(), with effects -/
theorem te_meth0 {m : Str} {x f : Addr} {fs : List (Str × V)} {fd : FuncData} {ps : List Str} {sp : Sp} {j : Nat} {apos : Pos} {pl : Sem Bool} {Q : VK} (hX : In P w K mg base k X) (c : Cls K C) (hm : Meth K C m f) (F : FnOk P w K mg base CX0 j f fd ps sp) (bd : Binds K fd ps []) (hj : j ≤ k) (ha : Ev K X Γ Φ e (.r (.ref x)))
    (hs : Slots K σ H Γ) (hp : Φ.p H) (hi : ∀ H, Φ.p H → IsI C x fs H) (hl : fs.lookup m = none) (h : ∀ H1, Same H H1 → sp [.ref x] H1 Q E0)
    (ht : eval (.Call (.Attribute e m apos) [] [] pos) X.env = (do
      let ov ← eval e X.env
      standAt apos.atName
      let (f, first) ← holding [ov] (getMethod ov m pl)
      callWith pos f first (backTo pos (starEach [] X.env)) (backToKw pos (keywordEach [] X.env))) := by rfl) : tE X (.Call (.Attribute e m apos) [] [] pos) σ H Q := by
  have F' : FnOk X.prog X.w X.K X.mg X.base CX0 j f fd ps sp := by rw [hX.prog, hX.w, hX.K, hX.mg, hX.base]; exact F
  refine PEto (pe_meth0 (CX := CX0) (E := E0) pe_sem (by rw [hX.K]; exact c) (by rw [hX.K]; exact hm) F' (hX.room.mono hj) (by rw [hX.K]; exact bd) .nil pass0 ht) (ha σ H _ hs hp fun u H1 e1 h1 => ?_)
  obtain ⟨dx, hd⟩ := hi H1 (Φ.up e1 hp)
  cases (show u = V.ref x from h1)
  exact ⟨x, dx, fs, rfl, hd, hl, h H1 e1⟩
/-- C(..) -/
theorem te_make {x : Str} {f : Addr} {fd : FuncData} {ps : List Str} {sp : Sp} {j : Nat} {Q : VK} (hX : In P w K mg base k X) (M : Mk K C f) (F : FnOk P w K mg base CX0 j f fd ps sp) (bd : Binds K fd ps []) (hj : j + 1 ≤ k) (g : GlAt X x) (hm : mg x = some (.ref C))
    (h : tA X (a :: es) σ H fun vs H1 => ∀ q dx, H1 q = none → H1 dx = none → dx ≠ q → sp (.ref q :: vs) (upd (upd H1 dx (.own q)) q (.ins C dx [])) (fun v H2 => v = .non ∧ Q (.ref q) H2) E0)
    (he : starEach (a :: es) X.env = (false, eval a X.env) :: starEach es X.env := by rfl) (hpl : (backTo pos (starEach es X.env)).any (·.1) = false := by rfl) : tE X (.Call (.Name x p) (a :: es) [] pos) σ H Q := by
  have F' : FnOk X.prog X.w X.K X.mg X.base CX0 j f fd ps sp := by rw [hX.prog, hX.w, hX.K, hX.mg, hX.base]; exact F
  refine PEto (pe_make (CX := CX0) (E := E0) (by rw [hX.K]; exact M) F' (hX.room.mono hj) g.1 (by rw [hX.mg]; exact hm) (by rw [hX.K]; exact bd) .nil pass0 pa_sem g.2.1 he hpl) ?_
  refine ⟨fun pos pins s I => wpAny_mono (h.run pos pins s I) (fun _ _ ⟨vs, H', I', r, q⟩ => ⟨vs, H', I', r, by simp only [List.append_nil]; exact q⟩) fun _ _ z => z⟩
/-- o.f = e -/
theorem tb_fld {o : Expr} {x dx : Addr} {f : Str} {fs : List (Str × V)} {pos' : Pos} (hX : In P w K mg base k X) (c : Cls K C) (n : NoAttr K C f) (hv : Ev K X Γ Φ e s) (ho : Ev K X Γ Φ o (.r (.ref x))) (hs : Slots K σ H Γ) (hp : Φ.p H) (hi : H x = some (.ins C dx fs)) (hz : fs.length < 1000)
    (h : ∀ v H2, Same H H2 → s.ok K H2 v → H2 x = some (.ins C dx fs) → tB X sts D σ (upd H2 x (.ins C dx (putF f v fs)))) (hw : swapsWith e (some (.Attribute o f pos')) pos.line X.env = pure false := by rfl) : tB X (.Assign [.Attribute o f pos'] e pos :: sts) D σ H :=
  tb_cons (PSto (ps_fld pe_sem pe_sem hw) (hv σ H _ hs hp fun v H1 e1 h1 => ho σ H1 _ (hs.up e1) (Φ.up e1 hp) fun u H2 e2 h2 =>
    ⟨x, C, dx, fs, h2, e2 _ _ (e1 _ _ hi), by rw [hX.K]; exact c, by rw [hX.K]; exact n, hz, h v H2 (e1.trans e2) (Sv.up e2 h1) (e2 _ _ (e1 _ _ hi))⟩))
/-- a fresh thing that is then changed leaves all else -/
theorem Fr.fresh {H H1 H' : Hp} {q : Addr} (e : Same H H1) (h : H q = none) (f : Fr T [q] H1 H') : Fr T [] H H' :=
  ⟨fun b o hb hq => f.tup b o (e _ _ hb) hq, fun b o hb _ t => f.keep b o (e _ _ hb) (fun z => by rw [List.mem_singleton] at z; subst z; rw [h] at hb; cases hb) t, fun hT => f.tabs (hT.ext e)⟩
/-! ### keep -/
def spKeepB (K : PySem.W.Frag) (T : List (Addr × Str)) (C : Addr) : Sp := fun vs H Q _ => ∃ (b : Addr) (h : Hl) (st : Stt) (en : Ent) (v : V), vs = [.ref b, v] ∧ BkAt K C b h st H ∧ Dp K H v en.dB ∧ st.past.length ≤ 900 ∧
  ∀ H', Fr T [b] H H' → BkAt K C b h ⟨st.past ++ [en], []⟩ H' → Q .non H'
theorem f_bkeep {g : Addr} {fd : FuncData} (B : BookF K mg C) (F : Fun K "keep" "Book.keep" s_Book_keep g fd) : FnOk P w K mg base CX0 1 g fd ["self", "one"] (spKeepB K T C) := by
  refine em_mk F sc_Book_keep (fun vs H Q E h => by obtain ⟨_, _, _, _, _, rfl, _⟩ := h; rfl) (fun X hX hn vs H Q h => ?_) fun vs H Q E h => h
  have Vr := fun (j : Nat) {i : Nat} {x : Str} e => (tab_loc tb_Book_keep hn (i := i) (x := x) j e).1
  obtain ⟨b, h, st, en, v, rfl, ⟨v1, v2, v3, bk⟩, hv, hz, kk⟩ := h
  obtain ⟨dx, hi⟩ := bk.i
  have s0 : Slots K (L2.start n_Book_keep [.ref b, v]) H (startS n_Book_keep [.r (.ref b), .d en.dB]) := startS_slots (.cons rfl (.cons hv .nil))
  refine tb_fld (Φ := BkVp K C b h st v1 v2 v3) (s := .d (.tuple (st.past.map Ent.dB ++ [en.dB]))) hX B.cls B.np (ev_tup (EvA.to (eva_star hX (ev_pastF hX B (fun H q => q) (ev_var (Vr 0 rfl) rfl)) (eva_cons (ev_var (Vr 1 rfl) rfl) eva_nil)) (by rw [List.map_append]; rfl)) (by simp; omega))
    (ev_var (Vr 0 rfl) rfl) s0 bk hi (by simp [fsB]) fun u H1 e1 h1 i1 => ?_
  have b1 := bk.up e1
  generalize hH2 : upd H1 b (.ins C dx (putF "past" u (fsB v1 v2 v3))) = H2
  have f2 : Fr T [b] H1 H2 := by rw [← hH2]; exact Fr.upd i1 trivial (by simp)
  have s2 := (s0.up e1).fr f2 (by exact nlG_r (nlG_d (nl_dB en) nlG_nil))
  have i2 : H2 b = some (.ins C dx (fsB v1 u v3)) := by rw [← hH2, upd_same]; rfl
  refine tb_fld (Φ := MP.top) (s := .d (.tuple [])) hX B.cls B.nl (ev_tup (ds := []) eva_nil (by simp)) (ev_var (Vr 0 rfl) rfl) s2 trivial i2 (by simp [fsB]) fun u2 H3 e3 h3 i3 => ?_
  generalize hH4 : upd H3 b (.ins C dx (putF "later" u2 (fsB v1 u v3))) = H4
  have f4 : Fr T [b] H3 H4 := by rw [← hH4]; exact Fr.upd i3 trivial (by simp)
  have i4 : H4 b = some (.ins C dx (fsB v1 u u2)) := by rw [← hH4, upd_same]; rfl
  have ff : Fr T [b] H1 H4 := f2.trans ((Fr.same e3).trans f4)
  have nlp : nl (.tuple (st.past.map Ent.dB ++ [en.dB])) = true := by
    have := nls_dB (st.past ++ [en]); rw [List.map_append] at this; exact nl_tup this
  exact tb_nil (kk H4 ((Fr.same e1).trans ff) ⟨v1, u, u2, ⟨dx, i4⟩, dp_fr ff (nl_hl h) b1.h, by rw [List.map_append]; exact dp_fr ff nlp h1, dp_fr f4 (nl_tup (by unfold nls; rfl)) h3⟩)
end
end BL
end

section
set_option Elab.async false
set_option linter.all false
set_option maxRecDepth 100000
set_option maxHeartbeats 4000000
/-! BMe: __init__, undo, redo, copy, call, give, change. -/
namespace BL
open PySem PySem.Spec PyProof.Rows L2
section
variable {P : Program} {w : World} {K : PySem.W.Frag} {mg : Str → Option Value} {base : Heap} {k : Nat} {T : List (Addr × Str)}
variable {X : Cx} {Γ Γ' : Gm} {Φ : MP} {a b c e tg it : Expr} {es : List Expr} {pos p : Pos} {s t : Sv} {ss : List Sv} {σ : L2.St} {H : Hp} {D : Ends} {st : Stmt} {sts bd el : List Stmt} {C : Addr}
/-- o.f = e, a datum without lists -/
theorem tb_bfld {o : Expr} {x dx : Addr} {f : Str} {fs : List (Str × V)} {pos' : Pos} {d : PyData} (hX : In P w K mg base k X) (c : Cls K C) (n : NoAttr K C f) (hv : Ev K X Γ Φ e (.d d)) (ho : Ev K X Γ Φ o (.r (.ref x))) (nd : nl d = true) (ng : nlG Γ) (hs : Slots K σ H Γ) (hp : Φ.p H) (hi : H x = some (.ins C dx fs)) (hz : fs.length < 1000)
    (h : ∀ v H2, Fr T [x] H H2 → Dp K H2 v d → Slots K σ H2 Γ → H2 x = some (.ins C dx (putF f v fs)) → tB X sts D σ H2) (hw : swapsWith e (some (.Attribute o f pos')) pos.line X.env = pure false := by rfl) : tB X (.Assign [.Attribute o f pos'] e pos :: sts) D σ H :=
  tb_fld hX c n hv ho hs hp hi hz (fun v H1 e1 h1 i1 => by
    have f2 : Fr T [x] H1 (upd H1 x (.ins C dx (putF f v fs))) := Fr.upd i1 trivial (by simp)
    exact h v _ ((Fr.same e1).trans f2) (dp_fr f2 nd h1) ((hs.up e1).fr f2 ng) upd_same) hw
theorem putF_len {f : Str} {v : V} : ∀ {fs : List (Str × V)}, (putF f v fs).length ≤ fs.length + 1
  | [] => Nat.le_refl _
  | (g, u) :: r => by
    unfold putF
    split
    · exact Nat.le_succ _
    · have := putF_len (f := f) (v := v) (fs := r); simp only [List.length_cons]; omega
theorem putF_lt {f : Str} {v : V} {fs : List (Str × V)} {n : Nat} (h : fs.length < n) : (putF f v fs).length < n + 1 := by have := putF_len (f := f) (v := v) (fs := fs); omega
/-! ### __init__ -/
def spInitB (K : PySem.W.Frag) (T : List (Addr × Str)) (C : Addr) : Sp := fun vs H Q _ => ∃ (b dx : Addr) (h : Hl) (r : Rl) (vh vr : V), vs = [.ref b, vh, vr] ∧ H b = some (.ins C dx []) ∧ h.Ok ∧ r.Ok h ∧ Dp K H vh h.d ∧ Dp K H vr r.d ∧
  ∀ H', Fr T [b] H H' → BkAt K C b h (beg h r) H' → Q .non H'
theorem f_binit {g : Addr} {fd : FuncData} (B : BookF K mg C) (F : Fun K "__init__" "Book.__init__" s_Book___init g fd) (Fn : PFn P w K mg base 5 "need_rule" R_need) (Fo : PFn P w K mg base 1 "none_of" R_none) : FnOk P w K mg base CX0 6 g fd ["self", "hall", "rule"] (spInitB K T C) := by
  refine em_mk F sc_Book___init (fun vs H Q E h => by obtain ⟨_, _, _, _, _, _, rfl, _⟩ := h; rfl) (fun X hX hn vs H Q h => ?_) fun vs H Q E h => h
  have Vr := fun (j : Nat) {i : Nat} {x : Str} e => (tab_loc tb_Book___init hn (i := i) (x := x) j e).1
  have G := fun (j : Nat) {x : Str} e => tab_glo tb_Book___init hn (x := x) j e
  obtain ⟨b, dx, h, r, vh, vr, rfl, hi, ok, rok, hh, hr, kk⟩ := h
  have s0 : Slots K (L2.start n_Book___init [.ref b, vh, vr]) H (startS n_Book___init [.r (.ref b), .d h.d, .d r.d]) := startS_slots (.cons rfl (.cons hh (.cons hr .nil)))
  have ng : nlG (startS n_Book___init [.r (.ref b), .d h.d, .d r.d]) := nlG_r (nlG_d (nl_hl h) (nlG_d (nl_rl r) nlG_nil))
  refine tb_pure (Φ := MP.top) (runS_expr (ev_call (ds := [h.d, r.d]) hX Fn (G 0 rfl) (by decide) (eva_cons (ev_var (Vr 1 rfl) rfl) (eva_cons (ev_var (Vr 2 rfl) rfl) eva_nil)) (.mk h r ok rok))) s0 trivial fun σ1 H1 e1 s1 => ?_
  have i1 := e1 _ _ hi
  refine tb_bfld (T := T) (Φ := MP.top) (d := h.d) hX B.cls B.nh (ev_var (Vr 1 rfl) rfl) (ev_var (Vr 0 rfl) rfl) (nl_hl h) ng s1 trivial i1 (by simp) fun v1 H2 f2 d2 s2 i2 => ?_
  refine tb_bfld (T := T) (Φ := MP.top) (d := .tuple [.tuple [.none, r.d, iT (none0 h), .int 0]]) hX B.cls B.np (ev_tup (eva_cons (ev_tup4 ev_non (ev_var (Vr 2 rfl) rfl)
    (ev_call (ds := [h.d]) hX Fo (G 1 rfl) (by decide) (eva_cons (ev_var (Vr 1 rfl) rfl) eva_nil) (.mk h ok)) ev_int) eva_nil) (by simp)) (ev_var (Vr 0 rfl) rfl) (nl_tup (nls_dB [⟨none, r, none0 h, 0⟩])) ng s2 trivial i2 (putF_lt (by simp)) fun v2 H3 f3 d3 s3 i3 => ?_
  refine tb_bfld (T := T) (Φ := MP.top) (d := .tuple []) hX B.cls B.nl (ev_tup (ds := []) eva_nil (by simp)) (ev_var (Vr 0 rfl) rfl) (nl_tup (by unfold nls; rfl)) ng s3 trivial i3 (putF_lt (putF_lt (by simp))) fun v3 H4 f4 d4 s4 i4 => ?_
  exact tb_nil (kk H4 ((Fr.same e1).trans (f2.trans (f3.trans f4))) ⟨v1, v2, v3, ⟨dx, i4⟩, dp_fr (f3.trans f4) (nl_hl h) d2, dp_fr f4 (nl_tup (nls_dB [⟨none, r, none0 h, 0⟩])) d3, d4⟩)
/-- Book(h, r) -/
theorem te_newB {x y : Expr} {h : Hl} {r : Rl} {Q : VK} (hX : In P w K mg base k X) (B : BookF K mg C) (Fn : PFn P w K mg base 5 "need_rule" R_need) (Fo : PFn P w K mg base 1 "none_of" R_none) (g : GlAt X "Book") (hj : 7 ≤ k) (ok : h.Ok) (rok : r.Ok h)
    (h1 : Ev K X Γ Φ x (.d h.d)) (h2 : Ev K X Γ Φ y (.d r.d)) (hs : Slots K σ H Γ) (hp : Φ.p H) (kk : ∀ q H', H q = none → Fr T [] H H' → BkAt K C q h (beg h r) H' → Q (.ref q) H')
    (he : starEach [x, y] X.env = (false, eval x X.env) :: starEach [y] X.env := by rfl) (he2 : starEach [y] X.env = (false, eval y X.env) :: starEach [] X.env := by rfl) (hpl : (backTo pos (starEach [y] X.env)).any (·.1) = false := by rfl) : tE X (.Call (.Name "Book" p) [x, y] [] pos) σ H Q := by
  obtain ⟨f, fd, h3, h4, h5⟩ := B.init
  refine te_make hX h5 (f_binit (T := T) B h3 Fn Fo) h4 hj g B.mg ?_ he hpl
  refine ta_cons (h1 σ H _ hs hp fun v1 H1 e1 d1 => ta_cons (h2 σ H1 _ (hs.up e1) (Φ.up e1 hp) fun v2 H2 e2 d2 => ta_nil fun q dx hq hdx hne => ?_) he2) he
  have e3 : Same H2 (upd H2 dx (.own q)) := same_new hdx
  have hq3 : (upd H2 dx (.own q)) q = none := by rw [upd_ne (Ne.symm hne)]; exact hq
  have e4 : Same (upd H2 dx (.own q)) (upd (upd H2 dx (.own q)) q (.ins C dx [])) := same_new hq3
  have ee := e3.trans e4
  exact ⟨q, dx, h, r, v1, v2, rfl, upd_same, ok, rok, dp_up (e2.trans ee) d1, dp_up ee d2, fun H' f bk => ⟨rfl, kk q H' (same_dn (e1.trans e2) hq) (Fr.fresh (e1.trans (e2.trans ee)) (same_dn (e1.trans e2) hq) f) bk⟩⟩
/-! ### undo, redo -/
theorem cutG_init {α : Type} (l : List α) (x : α) : cutG (l ++ [x]) none (some (-1)) = l := by
  unfold cutG
  have h1 : HT.sIx (l ++ [x]).length 0 none = 0 := rfl
  have h2 : HT.sIx (l ++ [x]).length (l ++ [x]).length (some (-1)) = l.length := by
    rw [List.length_append]
    unfold HT.sIx
    simp
    omega
  rw [h1, h2]
  simp
theorem cutG_last {α : Type} (l : List α) (x : α) : cutG (l ++ [x]) (some (-1)) none = [x] := by
  unfold cutG
  have h1 : HT.sIx (l ++ [x]).length 0 (some (-1)) = l.length := by
    rw [List.length_append]
    unfold HT.sIx
    simp
    omega
  have h2 : HT.sIx (l ++ [x]).length (l ++ [x]).length none = (l ++ [x]).length := rfl
  rw [h1, h2]
  simp
def spUndo (K : PySem.W.Frag) (T : List (Addr × Str)) (C : Addr) : Sp := fun vs H Q _ => ∃ (b : Addr) (h : Hl) (st : Stt), vs = [.ref b] ∧ BkAt K C b h st H ∧ st.past ≠ [] ∧ st.past.length + st.later.length ≤ 900 ∧
  (st.past.length = 1 → ∀ H', Same H H' → Q (.bl false) H') ∧ ∀ l x, st.past = l ++ [x] → l ≠ [] → ∀ H', Fr T [b] H H' → BkAt K C b h ⟨l, x :: st.later⟩ H' → Q (.bl true) H'
theorem f_bundo {g : Addr} {fd : FuncData} (tx : Tx mg) (B : BookF K mg C) (F : Fun K "undo" "Book.undo" s_Book_undo g fd) : FnOk P w K mg base CX0 3 g fd ["self"] (spUndo K T C) := by
  refine em_mk F sc_Book_undo (fun vs H Q E h => by obtain ⟨_, _, _, rfl, _⟩ := h; rfl) (fun X hX hn vs H Q h => ?_) fun vs H Q E h => h
  have Vr := fun (j : Nat) {i : Nat} {x : Str} e => (tab_loc tb_Book_undo hn (i := i) (x := x) j e).1
  have G := fun (j : Nat) {x : Str} e => tab_glo tb_Book_undo hn (x := x) j e
  obtain ⟨b, h, st, rfl, ⟨v1, v2, v3, bk⟩, ne, hz, k1, k2⟩ := h
  obtain ⟨dx, hi⟩ := bk.i
  have s0 : Slots K (L2.start n_Book_undo [.ref b]) H (startS n_Book_undo [.r (.ref b)]) := startS_slots (.cons rfl .nil)
  have ng : nlG (startS n_Book_undo [.r (.ref b)]) := nlG_r nlG_nil
  refine tb_ifP (Φ := BkVp K C b h st v1 v2 v3) (x := decide (st.past.length = 1)) (EvT.to (evt_eq hX (ev_blen hX tx B (G 0 rfl) (by decide) (fun H q => q) (by omega) (ev_var (Vr 0 rfl) rfl)) ev_int) (by
    rw [eqv_int]
    have := List.length_pos_iff.mpr ne
    by_cases q : st.past.length = 1
    · rw [decide_eq_true q, decide_eq_true_iff]; omega
    · rw [decide_eq_false q, decide_eq_false_iff_not]; omega)) s0 bk (fun x1 H1 e1 => ?_) fun x1 H1 e1 => ?_
  · exact tb_ret (Φ := MP.top) ev_bl (s0.up e1) trivial fun v H2 e2 d2 => by rw [dp_bl d2]; exact k1 (of_decide_eq_true x1) H2 (e1.trans e2)
  · have hl := of_decide_eq_false x1
    obtain ⟨l, x, hlx⟩ : ∃ l x, st.past = l ++ [x] := ⟨_, _, (List.dropLast_concat_getLast ne).symm⟩
    have hln : l ≠ [] := fun z => hl (by rw [hlx, z]; rfl)
    refine tb_nil ?_
    refine tb_bfld (T := T) (Φ := BkVp K C b h st v1 v2 v3) (d := .tuple ((x :: st.later).map Ent.dB)) hX B.cls B.nl
      (ev_tup (EvA.to (eva_cons (ev_last hX B (fun H q => q) (ev_var (Vr 0 rfl) rfl) (en := x) (by rw [hlx]; simp)) (eva_star hX (ev_laterF hX B (fun H q => q) (ev_var (Vr 0 rfl) rfl)) eva_nil)) (by rw [List.append_nil]; rfl)) (by simp; omega))
      (ev_var (Vr 0 rfl) rfl) (nl_tup (nls_dB _)) ng (s0.up e1) (bk.up e1) (e1 _ _ hi) (by simp [fsB]) fun u H2 f2 d2 s2 i2 => ?_
    have bk2 : BkV K C b h ⟨st.past, x :: st.later⟩ v1 v2 u H2 := ⟨⟨dx, i2⟩, dp_fr f2 (nl_hl h) (dp_up e1 bk.h), dp_fr f2 (nl_tup (nls_dB _)) (dp_up e1 bk.p), d2⟩
    refine tb_bfld (T := T) (Φ := BkVp K C b h ⟨st.past, x :: st.later⟩ v1 v2 u) (d := .tuple (l.map Ent.dB)) hX B.cls B.np
      (Ev.to (ev_slT (l := none) (u := some (-1)) hX (ev_pastF hX B (fun H q => q) (ev_var (Vr 0 rfl) rfl)) trivial (ev_neg ev_int)) (by show Sv.d (.tuple (cutG (st.past.map Ent.dB) none (some (-1)))) = _; rw [hlx, List.map_append]; rw [show [x].map Ent.dB = [x.dB] from rfl, cutG_init]))
      (ev_var (Vr 0 rfl) rfl) (nl_tup (nls_dB _)) ng s2 bk2 i2 (putF_lt (by simp [fsB])) fun u2 H3 f3 d3 s3 i3 => ?_
    exact tb_ret (Φ := MP.top) ev_bl s3 trivial fun v H4 e4 d4 => by
      rw [dp_bl d4]
      exact k2 l x hlx hln H4 ((Fr.same e1).trans (f2.trans (f3.trans (Fr.same e4)))) (BkAt.up ⟨v1, u2, u, ⟨dx, i3⟩, dp_fr f3 (nl_hl h) bk2.h, d3, dp_fr f3 (nl_tup (nls_dB (x :: st.later))) d2⟩ e4)
end
end BL
end

section
set_option Elab.async false
set_option linter.all false
set_option maxRecDepth 100000
set_option maxHeartbeats 4000000
/-! BMf: redo, copy, call, give, change. -/
namespace BL
open PySem PySem.Spec PyProof.Rows L2
/-! ### shapes -/
theorem strOk_of {x : Str} (h : PyData.strOk x = true) : Sh 0 (.str x) := sh_str h
theorem sh_dd {h : Hl} {d : Dd} (o : d.Ok h) : Sh 6 d.d := by
  cases d with
  | call k => exact (sh_tup (n := 0) fun x hx => by rcases List.mem_cons.mp hx with rfl | hx; exact sh_str (by decide +kernel); rw [List.mem_singleton.mp hx]; exact sh_int _).mono (by decide)
  | give k => exact (sh_tup (n := 0) fun x hx => by rcases List.mem_cons.mp hx with rfl | hx; exact sh_str (by decide +kernel); rw [List.mem_singleton.mp hx]; exact sh_int _).mono (by decide)
  | change r => exact sh_tup (n := 5) fun x hx => by rcases List.mem_cons.mp hx with rfl | hx; exact (sh_str (by decide +kernel)).mono (by decide); rw [List.mem_singleton.mp hx]; exact (sh_rl r).mono (by have := (show r.Ok h from o).d; omega)
theorem sh_ddB {h : Hl} {d : Option Dd} (o : ∀ x, d = some x → x.Ok h) : Sh 6 (ddB d) := by
  cases d with
  | none => exact sh_none.mono (by decide)
  | some d => exact sh_dd (o d rfl)
theorem sh_ddO {h : Hl} {d : Option Dd} (o : ∀ x, d = some x → x.Ok h) : Sh 6 (ddO d) := by
  cases d with
  | none => exact (sh_tup (n := 0) fun x hx => by rcases List.mem_cons.mp hx with rfl | hx; exact sh_none; rw [List.mem_singleton.mp hx]; exact sh_none).mono (by decide)
  | some d => exact sh_dd (o d rfl)
theorem sh_dB {h : Hl} {n : Nat} {e : Ent} (o : e.Ok h n) : Sh 7 e.dB := sh_tup (n := 6) fun x hx => by
  rcases List.mem_cons.mp hx with rfl | hx; exact sh_ddB o.d
  rcases List.mem_cons.mp hx with rfl | hx; exact (sh_rl e.r).mono (by have := o.r.d; omega)
  rcases List.mem_cons.mp hx with rfl | hx; exact (sh_iT _).mono (by decide)
  rw [List.mem_singleton.mp hx]; exact (sh_int _).mono (by decide)
theorem sh_dBs {h : Hl} {n : Nat} {l : List Ent} (o : ∀ e ∈ l, e.Ok h n) : SeqAt.shaped (.tuple (l.map Ent.dB)) = true := (sh_tup (n := 7) fun x hx => by obtain ⟨e, he, rfl⟩ := List.mem_map.mp hx; exact sh_dB (o e he)).shaped (by decide)
section
variable {P : Program} {w : World} {K : PySem.W.Frag} {mg : Str → Option Value} {base : Heap} {k : Nat} {T : List (Addr × Str)}
variable {X : Cx} {Γ Γ' : Gm} {Φ : MP} {a b c e tg it : Expr} {es : List Expr} {pos p : Pos} {s t : Sv} {ss : List Sv} {σ : L2.St} {H : Hp} {D : Ends} {st : Stmt} {sts bd el : List Stmt} {C : Addr}
theorem Fr.freshF {S : List Addr} {H H1 H' : Hp} {q : Addr} (e : Fr T S H H1) (h : H q = none) (f : Fr T (q :: S) H1 H') : Fr T S H H' :=
  ⟨fun b o hb hq => f.tup b o (e.tup b o hb hq) hq, fun b o hb n t => f.keep b o (e.keep b o hb n t) (fun z => by rcases List.mem_cons.mp z with rfl | z; rw [h] at hb; cases hb; exact n z) t, fun hT => f.tabs (e.tabs hT)⟩
/-! ### redo -/
def spRedo (K : PySem.W.Frag) (T : List (Addr × Str)) (C : Addr) : Sp := fun vs H Q _ => ∃ (b : Addr) (h : Hl) (st : Stt) (n : Nat), vs = [.ref b] ∧ BkAt K C b h st H ∧ (∀ e ∈ st.later, e.Ok h n) ∧ st.past.length + st.later.length ≤ 900 ∧
  (st.later = [] → ∀ H', Same H H' → Q (.bl false) H') ∧ ∀ x l, st.later = x :: l → ∀ H', Fr T [b] H H' → BkAt K C b h ⟨st.past ++ [x], l⟩ H' → Q (.bl true) H'
theorem eqv_tup0 (ds : List PyData) : PyData.eqv (.tuple ds) (.tuple []) = ds.isEmpty := by cases ds <;> rfl
theorem f_bredo {g : Addr} {fd : FuncData} (B : BookF K mg C) (F : Fun K "redo" "Book.redo" s_Book_redo g fd) : FnOk P w K mg base CX0 3 g fd ["self"] (spRedo K T C) := by
  refine em_mk F sc_Book_redo (fun vs H Q E h => by obtain ⟨_, _, _, _, rfl, _⟩ := h; rfl) (fun X hX hn vs H Q h => ?_) fun vs H Q E h => h
  have Vr := fun (j : Nat) {i : Nat} {x : Str} e => (tab_loc tb_Book_redo hn (i := i) (x := x) j e).1
  obtain ⟨b, h, st, n, rfl, ⟨v1, v2, v3, bk⟩, ok, hz, k1, k2⟩ := h
  obtain ⟨dx, hi⟩ := bk.i
  have s0 : Slots K (L2.start n_Book_redo [.ref b]) H (startS n_Book_redo [.r (.ref b)]) := startS_slots (.cons rfl .nil)
  have ng : nlG (startS n_Book_redo [.r (.ref b)]) := nlG_r nlG_nil
  refine tb_ifP (Φ := BkVp K C b h st v1 v2 v3) (x := st.later.isEmpty) (EvT.to (evt_eq hX (ev_laterF hX B (fun H q => q) (ev_var (Vr 0 rfl) rfl)) (ev_tup (ds := []) eva_nil (by simp)) (sh_dBs ok) rfl) (by rw [eqv_tup0, List.isEmpty_map])) s0 bk (fun x1 H1 e1 => ?_) fun x1 H1 e1 => ?_
  · exact tb_ret (Φ := MP.top) ev_bl (s0.up e1) trivial fun v H2 e2 d2 => by rw [dp_bl d2]; exact k1 (List.isEmpty_iff.mp x1) H2 (e1.trans e2)
  · obtain ⟨x, l, hl⟩ : ∃ x l, st.later = x :: l := by
      cases q : st.later with
      | nil => rw [q] at x1; cases x1
      | cons x l => exact ⟨x, l, rfl⟩
    have hll : st.later.length = l.length + 1 := by rw [hl]; rfl
    refine tb_nil ?_
    refine tb_bfld (T := T) (Φ := BkVp K C b h st v1 v2 v3) (d := .tuple ((st.past ++ [x]).map Ent.dB)) hX B.cls B.np
      (ev_tup (EvA.to (eva_star hX (ev_pastF hX B (fun H q => q) (ev_var (Vr 0 rfl) rfl)) (eva_cons (ev_ixT (d := x.dB) hX (ev_laterF hX B (fun H q => q) (ev_var (Vr 0 rfl) rfl)) ev_int (by rw [hl]; exact atI_zero _ _)) eva_nil)) (by rw [List.map_append, List.map_append]; rfl)) (by simp; omega))
      (ev_var (Vr 0 rfl) rfl) (nl_tup (nls_dB _)) ng (s0.up e1) (bk.up e1) (e1 _ _ hi) (by simp [fsB]) fun u H2 f2 d2 s2 i2 => ?_
    have bk2 : BkV K C b h ⟨st.past ++ [x], st.later⟩ v1 u v3 H2 := ⟨⟨dx, i2⟩, dp_fr f2 (nl_hl h) (dp_up e1 bk.h), d2, dp_fr f2 (nl_tup (nls_dB _)) (dp_up e1 bk.l)⟩
    refine tb_bfld (T := T) (Φ := BkVp K C b h ⟨st.past ++ [x], st.later⟩ v1 u v3) (d := .tuple (l.map Ent.dB)) hX B.cls B.nl
      (Ev.to (ev_slT (l := some ((1 : Nat) : Int)) (u := none) hX (ev_laterF hX B (fun H q => q) (ev_var (Vr 0 rfl) rfl)) ev_int trivial) (by show Sv.d (.tuple (cutG (st.later.map Ent.dB) (some ((1 : Nat) : Int)) none)) = _; rw [cutG_from, hl]; rfl))
      (ev_var (Vr 0 rfl) rfl) (nl_tup (nls_dB _)) ng s2 bk2 i2 (putF_lt (by simp [fsB])) fun u2 H3 f3 d3 s3 i3 => ?_
    exact tb_ret (Φ := MP.top) ev_bl s3 trivial fun v H4 e4 d4 => by
      rw [dp_bl d4]
      exact k2 x l hl H4 ((Fr.same e1).trans (f2.trans (f3.trans (Fr.same e4)))) (BkAt.up ⟨v1, u, u2, ⟨dx, i3⟩, dp_fr f3 (nl_hl h) bk2.h, dp_fr f3 (nl_tup (nls_dB _)) bk2.p, d3⟩ e4)
/-! ### copy -/
def spCopy (K : PySem.W.Frag) (T : List (Addr × Str)) (C : Addr) : Sp := fun vs H Q _ => ∃ (b : Addr) (h : Hl) (st : Stt) (e0 : Ent), vs = [.ref b] ∧ BkAt K C b h st H ∧ h.Ok ∧ st.past.head? = some e0 ∧ e0.r.Ok h ∧
  ∀ q H', H q = none → Fr T [] H H' → BkAt K C q h st H' → Q (.ref q) H'
theorem f_bcopy {g : Addr} {fd : FuncData} (B : BookF K mg C) (F : Fun K "copy" "Book.copy" s_Book_copy g fd) (Fn : PFn P w K mg base 5 "need_rule" R_need) (Fo : PFn P w K mg base 1 "none_of" R_none) : FnOk P w K mg base CX0 8 g fd ["self"] (spCopy K T C) := by
  refine em_mk F sc_Book_copy (fun vs H Q E h => by obtain ⟨_, _, _, _, rfl, _⟩ := h; rfl) (fun X hX hn vs H Q h => ?_) fun vs H Q E h => h
  have Vr := fun (j : Nat) {i : Nat} {x : Str} e => (tab_loc tb_Book_copy hn (i := i) (x := x) j e).1
  have L := fun (j : Nat) {i : Nat} {x : Str} e => (tab_loc tb_Book_copy hn (i := i) (x := x) j e).2
  have G := fun (j : Nat) {x : Str} e => tab_glo tb_Book_copy hn (x := x) j e
  obtain ⟨b, h, st, e0, rfl, ⟨v1, v2, v3, bk⟩, ok, hd, rok, kk⟩ := h
  obtain ⟨dx, hi⟩ := bk.i
  have s0 : Slots K (L2.start n_Book_copy [.ref b]) H (startS n_Book_copy [.r (.ref b)]) := startS_slots (.cons rfl .nil)
  have hat : atI (st.past.map Ent.dB) 0 = some e0.dB := by
    cases q : st.past with
    | nil => rw [q] at hd; cases hd
    | cons x r => rw [q] at hd; cases hd; exact atI_zero _ _
  refine tb_set hX (L 1 rfl) (te_newB (T := T) (Φ := BkVp K C b h st v1 v2 v3) (h := h) (r := e0.r) hX B Fn Fo (G 0 rfl) (by decide) ok rok (ev_hallF hX B (fun H q => q) (ev_var (Vr 0 rfl) rfl))
    (ev_ixT (ds := [ddB e0.dd, e0.r.d, iT e0.c, .int e0.p]) hX (ev_ixT (d := e0.dB) hX (ev_pastF hX B (fun H q => q) (ev_var (Vr 0 rfl) rfl)) ev_int hat) ev_int rfl) s0 bk fun q H1 hq f1 bq => ?_)
  obtain ⟨w1, w2, w3, bq⟩ := bq
  obtain ⟨dq, iq⟩ := bq.i
  have ng : nlG ((startS n_Book_copy [.r (.ref b)]).set 1 (some (.r (.ref q)))) := nlG_r (nlG_r nlG_nil)
  have s1 : Slots K ((L2.start n_Book_copy [.ref b]).set 1 (some (.ref q))) H1 ((startS n_Book_copy [.r (.ref b)]).set 1 (some (.r (.ref q)))) := Slots.set (s0.fr f1 (nlG_r (nlG_none nlG_nil))) rfl
  have hbq : b ≠ q := fun z => by subst z; rw [hi] at hq; cases hq
  have bk1 := bk.fr f1 (by simp)
  refine tb_bfld (T := T) (Φ := BkVp K C b h st v1 v2 v3) (d := .tuple (st.past.map Ent.dB)) hX B.cls B.np (ev_pastF hX B (fun H q => q) (ev_var (Vr 0 rfl) rfl)) (ev_var (Vr 1 rfl) rfl) (nl_tup (nls_dB _)) ng s1 bk1 iq (by simp [fsB]) fun u H2 f2 d2 s2 i2 => ?_
  have bk2 := bk1.fr f2 (by simp [hbq])
  refine tb_bfld (T := T) (Φ := BkVp K C b h st v1 v2 v3) (d := .tuple (st.later.map Ent.dB)) hX B.cls B.nl (ev_laterF hX B (fun H q => q) (ev_var (Vr 0 rfl) rfl)) (ev_var (Vr 1 rfl) rfl) (nl_tup (nls_dB _)) ng s2 bk2 i2 (putF_lt (by simp [fsB])) fun u2 H3 f3 d3 s3 i3 => ?_
  refine tb_ret (Φ := MP.top) (ev_var (Vr 1 rfl) rfl) s3 trivial fun v H4 e4 d4 => ?_
  cases (show v = V.ref q from d4)
  exact kk q H4 hq ((Fr.freshF f1 hq (f2.trans f3)).trans (Fr.same e4)) (BkAt.up ⟨w1, u, u2, ⟨dq, i3⟩, dp_fr (f2.trans f3) (nl_hl h) bq.h, dp_fr f3 (nl_tup (nls_dB _)) d2, d3⟩ e4)
/-! ### call, give, change -/
def stCall (h : Hl) (st : Stt) (e : Ent) (k : Nat) : Stt := ⟨st.past ++ [⟨some (.call k), e.r, (step h e.r e.c e.p k).1, (step h e.r e.c e.p k).2.1⟩], []⟩
def stGive (st : Stt) (e : Ent) (k : Nat) : Stt := ⟨st.past ++ [⟨some (.give k), e.r, more e.c k (-1), e.p⟩], []⟩
def stChange (st : Stt) (e : Ent) (r : Rl) : Stt := ⟨st.past ++ [⟨some (.change r), r, e.c, e.p⟩], []⟩
inductive R_nfare (K : PySem.W.Frag) (C : Addr) : List Sv → MP → Sv → Prop where
  | mk (Φ : MP) (b : Addr) (h : Hl) (st : Stt) (v1 v2 v3 : V) (j : Nat) (kn : Knows K C Φ b h st v1 v2 v3) (ok : h.Ok) (hj : j < h.fs.length) : R_nfare K C [.r (.ref b), .d (.int (j : Int))] Φ (.d .none)
theorem f_need_fare {g : Addr} {fd : FuncData} (tx : Tx mg) (B : BookF K mg C) (F : Fun K "need_fare" "Book.need_fare" s_Book_need_fare g fd) (Fw : PFn P w K mg base 1 "is_whole" R_whole) : FnOk P w K mg base CX0 2 g fd ["self", "fare"] (spM K (R_nfare K C)) := by
  refine F.ok sc_Book_need_fare (fun vs H Q E h => ?_) fun cdv A outer s H vs Q E hr h => ?_
  · obtain ⟨ss, Φ, s, h1, _, h2, _⟩ := h
    refine (SvAll.len h1).trans ?_
    cases h2
    rfl
  · obtain ⟨ss, Φ, s', h1, h2, h3, h4⟩ := h
    refine ⟨_, pb_sem, ?_⟩
    have hX : In P w K mg base 1 (cxOf CX0 P w K mg base n_Book_need_fare "Book.need_fare" (defScope s_Book_need_fare) g cdv A outer s H E).nox := nm_inX hr sc_Book_need_fare.nd
    have hn : Nm n_Book_need_fare (defScope s_Book_need_fare) (cxOf CX0 P w K mg base n_Book_need_fare "Book.need_fare" (defScope s_Book_need_fare) g cdv A outer s H E).nox := ⟨rfl, rfl, fun _ => rfl, PassesOwn.never⟩
    generalize (cxOf CX0 P w K mg base n_Book_need_fare "Book.need_fare" (defScope s_Book_need_fare) g cdv A outer s H E).nox = X at hX hn ⊢
    have Vr := fun (j : Nat) {i : Nat} {x : Str} e => (tab_loc tb_Book_need_fare hn (i := i) (x := x) j e).1
    have G := fun (j : Nat) {x : Str} e => tab_glo tb_Book_need_fare hn (x := x) j e
    cases h3 with
    | mk _ b h st v1 v2 v3 j kn ok hj =>
      refine tb_ifP (Φ := Φ) (x := false) (EvT.to (evt_not (evt_val (ev_whole hX Fw (G 0 rfl) (by decide) (ev_var (Vr 1 rfl) rfl) ev_int (ev_sub (ev_lenT hX (G 1 rfl) tx.len (ds := h.fs.map PyData.int) (ev_ixT (ds := [.int h.s, iT h.fs]) hX (ev_hallF hX B kn (ev_var (Vr 0 rfl) rfl)) ev_int rfl)) ev_int)))) ?_) (startS_slots h1) h2 (fun z => nomatch z) fun _ H' e' => ?_
      · rw [List.length_map, decide_eq_true (show (0 : Int) ≤ (j : Int) from Int.natCast_nonneg j), decide_eq_true (by omega)]; rfl
      · exact tb_nil (tb_nil (h4 _ H' e' .non))
end
end BL
end

section
set_option Elab.async false
set_option linter.all false
set_option maxRecDepth 100000
set_option maxHeartbeats 4000000
/-! BMg: call, give, change. -/
namespace BL
open PySem PySem.Spec PyProof.Rows L2
section
variable {P : Program} {w : World} {K : PySem.W.Frag} {mg : Str → Option Value} {base : Heap} {k : Nat} {T : List (Addr × Str)}
variable {X : Cx} {Γ Γ' : Gm} {Φ : MP} {a b c e tg it : Expr} {es : List Expr} {pos p : Pos} {s t : Sv} {ss : List Sv} {σ : L2.St} {H : Hp} {D : Ends} {st : Stmt} {sts bd el : List Stmt} {C : Addr}
/-- what a deed of the book needs -/
structure BkOk (h : Hl) (st : Stt) (e : Ent) : Prop where
  ok : h.Ok
  la : st.past.getLast? = some e
  ro : e.r.Ok h
  so : e.c.length = h.fs.length
  sz : st.past.length ≤ 400
/-- self.keep(x) -/
theorem te_keepB {o x : Expr} {b : Addr} {h : Hl} {stt : Stt} {v1 v2 v3 : V} {en : Ent} {apos : Pos} {pl : Sem Bool} {Q : VK} (hX : In P w K mg base k X) (B : BookF K mg C) (hj : 1 ≤ k) (ho : Ev K X Γ (BkVp K C b h stt v1 v2 v3) o (.r (.ref b))) (hx : Ev K X Γ (BkVp K C b h stt v1 v2 v3) x (.d en.dB))
    (hs : Slots K σ H Γ) (hp : BkV K C b h stt v1 v2 v3 H) (hz : stt.past.length ≤ 900) (kk : ∀ H', Fr T [b] H H' → BkAt K C b h ⟨stt.past ++ [en], []⟩ H' → Q .non H')
    (hst : starEach [x] X.env = (false, eval x X.env) :: starEach [] X.env := by rfl) (hpl : (backTo pos (starEach [] X.env)).any (·.1) = false := by rfl)
    (ht : eval (.Call (.Attribute o "keep" apos) [x] [] pos) X.env = (do
      let ov ← eval o X.env
      standAt apos.atName
      let (f, first) ← holding [ov] (getMethod ov "keep" pl)
      callWith pos f first (backTo pos (starEach [x] X.env)) (backToKw pos (keywordEach [] X.env))) := by rfl) : tE X (.Call (.Attribute o "keep" apos) [x] [] pos) σ H Q := by
  obtain ⟨f, fd, m⟩ := B.keep
  refine te_meth (Φ := BkVp K C b h stt v1 v2 v3) (fs := fsB v1 v2 v3) hX B.cls m.mt (f_bkeep (T := T) B m.fn) m.bd hj ho hs hp (fun H q => q.i) rfl (fun H1 e1 => ta_cons (hx σ H1 _ (hs.up e1) (hp.up e1) fun v H2 e2 d2 => ta_nil ?_) hst) hst hpl ht
  exact ⟨b, h, stt, en, v, rfl, ⟨v1, v2, v3, hp.up (e1.trans e2)⟩, d2, hz, fun H' f bk => kk H' ((Fr.same (e1.trans e2)).trans f) bk⟩
def spCallB (K : PySem.W.Frag) (T : List (Addr × Str)) (C : Addr) : Sp := fun vs H Q _ => ∃ (b : Addr) (h : Hl) (st : Stt) (e : Ent) (j : Nat), vs = [.ref b, .int (j : Int)] ∧ BkAt K C b h st H ∧ BkOk h st e ∧ j < h.fs.length ∧
  ∀ H', Fr T [b] H H' → BkAt K C b h (stCall h st e j) H' → Q (.str (step h e.r e.c e.p j).2.2.nm) H'
theorem f_bcall {g : Addr} {fd : FuncData} (tx : Tx mg) (B : BookF K mg C) (F : Fun K "call" "Book.call" s_Book_call g fd) (Fw : PFn P w K mg base 1 "is_whole" R_whole) (Fs : PFn P w K mg base 6 "step_of" R_step) : FnOk P w K mg base CX0 7 g fd ["self", "fare"] (spCallB K T C) := by
  refine em_mk F sc_Book_call (fun vs H Q E h => by obtain ⟨_, _, _, _, _, rfl, _⟩ := h; rfl) (fun X hX hn vs H Q h => ?_) fun vs H Q E h => h
  have Vr := fun (j : Nat) {i : Nat} {x : Str} e => (tab_loc tb_Book_call hn (i := i) (x := x) j e).1
  have L := fun (j : Nat) {i : Nat} {x : Str} e => (tab_loc tb_Book_call hn (i := i) (x := x) j e).2
  have G := fun (j : Nat) {x : Str} e => tab_glo tb_Book_call hn (x := x) j e
  obtain ⟨b, h, st, e, j, rfl, ⟨v1, v2, v3, bk⟩, o, hj, kk⟩ := h
  obtain ⟨f1, fd1, m1⟩ := B.need_fare
  obtain ⟨f2, fd2, m2⟩ := B.need_room
  have s0 : Slots K (L2.start n_Book_call [.ref b, .int (j : Int)]) H (startS n_Book_call [.r (.ref b), .d (.int (j : Int))]) := startS_slots (.cons rfl (.cons (.int _) .nil))
  have kn : ∀ {b : Addr} {h : Hl} {st : Stt} {v1 v2 v3 : V}, Knows K C (BkVp K C b h st v1 v2 v3) b h st v1 v2 v3 := fun H q => q
  refine tb_pure (Φ := BkVp K C b h st v1 v2 v3) (runS_expr (ev_meth (fs := fsB v1 v2 v3) (j := 2) (s := .d .none) (ss := [.d (.int (j : Int))]) hX B.cls m1.mt (f_need_fare tx B m1.fn Fw) m1.bd (by decide) (ev_var (Vr 0 rfl) rfl) (eva_cons (ev_var (Vr 1 rfl) rfl) eva_nil) (fun H q => q.i) rfl (.mk _ b h st v1 v2 v3 j kn o.ok hj))) s0 bk fun σ1 H1 e1 s1 => ?_
  have bk1 := bk.up e1
  refine tb_pure (Φ := BkVp K C b h st v1 v2 v3) (runS_expr (ev_meth0 (fs := fsB v1 v2 v3) (j := 3) (s := .d .none) hX B.cls m2.mt (f_need_room tx B m2.fn) m2.bd (by decide) (ev_var (Vr 0 rfl) rfl) (fun H q => q.i) rfl (.mk _ b h st v1 v2 v3 kn o.sz))) s1 bk1 fun σ2 H2 e2 s2 => ?_
  have bk2 := bk1.up e2
  refine tb_pure (Φ := BkVp K C b h st v1 v2 v3) (runS_unp (own := [2, 3, 4]) (d := stepD (step h e.r e.c e.p j)) (ev_call (ds := [h.d, e.r.d, iT e.c, .int e.p, .int (j : Int)]) hX Fs (G 0 rfl) (by decide)
    (eva_cons (ev_hallF hX B kn (ev_var (Vr 0 rfl) rfl)) (eva_cons (ev_brule (en := e) hX B (by decide) kn (ev_var (Vr 0 rfl) rfl) o.la) (eva_cons (ev_bsold (en := e) hX B (by decide) kn (ev_var (Vr 0 rfl) rfl) o.la) (eva_cons (ev_bpaid (en := e) hX B (by decide) kn (ev_var (Vr 0 rfl) rfl) o.la) (eva_cons (ev_var (Vr 1 rfl) rfl) eva_nil)))))
    (.mk h e.r e.c e.p j o.ok (by rw [o.so]; exact o.ro.ok.ln) o.so (by rw [o.so]; exact hj) o.ro.d))
    (tg_tup hX (tgs_cons (tg_name hX.nd (L 2 rfl) (by simp)) (tgs_cons (tg_name hX.nd (L 3 rfl) (by simp)) (tgs_cons (tg_name hX.nd (L 4 rfl) (by simp)) tgs_nil))) rfl)) s2 bk2 fun σ3 H3 e3 s3 => ?_
  have bk3 := bk2.up e3
  refine tb_drop (te_keepB (T := T) (en := ⟨some (.call j), e.r, (step h e.r e.c e.p j).1, (step h e.r e.c e.p j).2.1⟩) hX B (by decide) (ev_var (Vr 0 rfl) rfl)
    (ev_tup4 (ev_tup2 (ev_gstr hX (G 1 rfl) tx.call) (ev_var (Vr 1 rfl) rfl)) (ev_brule (en := e) hX B (by decide) kn (ev_var (Vr 0 rfl) rfl) o.la) (ev_var (Vr 2 rfl) rfl) (ev_var (Vr 3 rfl) rfl)) s3 bk3 (by have := o.sz; omega) fun H4 f4 b4 => ?_)
  have s4 := s3.fr f4 (by exact nlG_r (nlG_d (nl_int _) (nlG_d (nl_iT _) (nlG_d (nl_int _) (nlG_d (nl_str _) nlG_nil)))))
  refine tb_ret (Φ := MP.top) (ev_var (Vr 4 rfl) rfl) s4 trivial fun v H5 e5 d5 => ?_
  cases (dp_str d5)
  exact kk H5 ((Fr.same (e1.trans (e2.trans e3))).trans (f4.trans (Fr.same e5))) (b4.up e5)
def spGiveB (K : PySem.W.Frag) (T : List (Addr × Str)) (C : Addr) : Sp := fun vs H Q _ => ∃ (b : Addr) (h : Hl) (st : Stt) (e : Ent) (j : Nat), vs = [.ref b, .int (j : Int)] ∧ BkAt K C b h st H ∧ BkOk h st e ∧ j < h.fs.length ∧ e.c.getD j 0 ≠ 0 ∧
  ∀ H', Fr T [b] H H' → BkAt K C b h (stGive st e j) H' → Q .non H'
theorem f_bgive {g : Addr} {fd : FuncData} (tx : Tx mg) (B : BookF K mg C) (F : Fun K "give" "Book.give" s_Book_give g fd) (Fw : PFn P w K mg base 1 "is_whole" R_whole) (Fm : PFn P w K mg base 1 "with_more" R_more) : FnOk P w K mg base CX0 4 g fd ["self", "fare"] (spGiveB K T C) := by
  refine em_mk F sc_Book_give (fun vs H Q E h => by obtain ⟨_, _, _, _, _, rfl, _⟩ := h; rfl) (fun X hX hn vs H Q h => ?_) fun vs H Q E h => h
  have Vr := fun (j : Nat) {i : Nat} {x : Str} e => (tab_loc tb_Book_give hn (i := i) (x := x) j e).1
  have G := fun (j : Nat) {x : Str} e => tab_glo tb_Book_give hn (x := x) j e
  obtain ⟨b, h, st, e, j, rfl, ⟨v1, v2, v3, bk⟩, o, hj, hne, kk⟩ := h
  obtain ⟨f1, fd1, m1⟩ := B.need_fare
  obtain ⟨f2, fd2, m2⟩ := B.need_room
  have s0 : Slots K (L2.start n_Book_give [.ref b, .int (j : Int)]) H (startS n_Book_give [.r (.ref b), .d (.int (j : Int))]) := startS_slots (.cons rfl (.cons (.int _) .nil))
  have kn : ∀ {b : Addr} {h : Hl} {st : Stt} {v1 v2 v3 : V}, Knows K C (BkVp K C b h st v1 v2 v3) b h st v1 v2 v3 := fun H q => q
  refine tb_pure (Φ := BkVp K C b h st v1 v2 v3) (runS_expr (ev_meth (fs := fsB v1 v2 v3) (j := 2) (s := .d .none) (ss := [.d (.int (j : Int))]) hX B.cls m1.mt (f_need_fare tx B m1.fn Fw) m1.bd (by decide) (ev_var (Vr 0 rfl) rfl) (eva_cons (ev_var (Vr 1 rfl) rfl) eva_nil) (fun H q => q.i) rfl (.mk _ b h st v1 v2 v3 j kn o.ok hj))) s0 bk fun σ1 H1 e1 s1 => ?_
  have bk1 := bk.up e1
  refine tb_ifP (Φ := BkVp K C b h st v1 v2 v3) (x := false) (EvT.to (evt_eq hX (ev_ixT (ds := e.c.map PyData.int) hX (ev_bsold (en := e) hX B (by decide) kn (ev_var (Vr 0 rfl) rfl) o.la) (ev_var (Vr 1 rfl) rfl) (iT_get (by rw [o.so]; exact hj))) ev_int) (by rw [eqv_int, decide_eq_false hne])) s1 bk1 (fun z => nomatch z) fun _ H2 e2 => ?_
  have bk2 := bk1.up e2
  refine tb_nil ?_
  refine tb_pure (Φ := BkVp K C b h st v1 v2 v3) (runS_expr (ev_meth0 (fs := fsB v1 v2 v3) (j := 3) (s := .d .none) hX B.cls m2.mt (f_need_room tx B m2.fn) m2.bd (by decide) (ev_var (Vr 0 rfl) rfl) (fun H q => q.i) rfl (.mk _ b h st v1 v2 v3 kn o.sz))) (s1.up e2) bk2 fun σ3 H3 e3 s3 => ?_
  have bk3 := bk2.up e3
  refine tb_drop (te_keepB (T := T) (en := ⟨some (.give j), e.r, more e.c j (-1), e.p⟩) hX B (by decide) (ev_var (Vr 0 rfl) rfl)
    (ev_tup4 (ev_tup2 (ev_gstr hX (G 1 rfl) tx.give) (ev_var (Vr 1 rfl) rfl)) (ev_brule (en := e) hX B (by decide) kn (ev_var (Vr 0 rfl) rfl) o.la) (ev_withmore hX Fm (G 2 rfl) (by decide) (ev_bsold (en := e) hX B (by decide) kn (ev_var (Vr 0 rfl) rfl) o.la) (ev_var (Vr 1 rfl) rfl) (ev_neg ev_int) (by rw [o.so]; exact hj) (by rw [o.so]; have := o.ok.n4; omega)) (ev_bpaid (en := e) hX B (by decide) kn (ev_var (Vr 0 rfl) rfl) o.la)) s3 bk3 (by have := o.sz; omega) fun H4 f4 b4 => ?_)
  exact tb_nil (kk H4 ((Fr.same (e1.trans (e2.trans e3))).trans f4) b4)
def spChangeB (K : PySem.W.Frag) (T : List (Addr × Str)) (C : Addr) : Sp := fun vs H Q _ => ∃ (b : Addr) (h : Hl) (st : Stt) (e : Ent) (r : Rl) (v : V), vs = [.ref b, v] ∧ BkAt K C b h st H ∧ BkOk h st e ∧ r.Ok h ∧ Dp K H v r.d ∧
  ∀ H', Fr T [b] H H' → BkAt K C b h (stChange st e r) H' → Q .non H'
theorem f_bchange {g : Addr} {fd : FuncData} (tx : Tx mg) (B : BookF K mg C) (F : Fun K "change" "Book.change" s_Book_change g fd) (Fn : PFn P w K mg base 5 "need_rule" R_need) : FnOk P w K mg base CX0 6 g fd ["self", "rule"] (spChangeB K T C) := by
  refine em_mk F sc_Book_change (fun vs H Q E h => by obtain ⟨_, _, _, _, _, _, rfl, _⟩ := h; rfl) (fun X hX hn vs H Q h => ?_) fun vs H Q E h => h
  have Vr := fun (j : Nat) {i : Nat} {x : Str} e => (tab_loc tb_Book_change hn (i := i) (x := x) j e).1
  have G := fun (j : Nat) {x : Str} e => tab_glo tb_Book_change hn (x := x) j e
  obtain ⟨b, h, st, e, r, v, rfl, ⟨v1, v2, v3, bk⟩, o, rok, hv, kk⟩ := h
  obtain ⟨f2, fd2, m2⟩ := B.need_room
  have s0 : Slots K (L2.start n_Book_change [.ref b, v]) H (startS n_Book_change [.r (.ref b), .d r.d]) := startS_slots (.cons rfl (.cons hv .nil))
  have kn : ∀ {b : Addr} {h : Hl} {st : Stt} {v1 v2 v3 : V}, Knows K C (BkVp K C b h st v1 v2 v3) b h st v1 v2 v3 := fun H q => q
  refine tb_pure (Φ := BkVp K C b h st v1 v2 v3) (runS_expr (ev_call (ds := [h.d, r.d]) hX Fn (G 0 rfl) (by decide) (eva_cons (ev_hallF hX B kn (ev_var (Vr 0 rfl) rfl)) (eva_cons (ev_var (Vr 1 rfl) rfl) eva_nil)) (.mk h r o.ok rok))) s0 bk fun σ1 H1 e1 s1 => ?_
  have bk1 := bk.up e1
  refine tb_pure (Φ := BkVp K C b h st v1 v2 v3) (runS_expr (ev_meth0 (fs := fsB v1 v2 v3) (j := 3) (s := .d .none) hX B.cls m2.mt (f_need_room tx B m2.fn) m2.bd (by decide) (ev_var (Vr 0 rfl) rfl) (fun H q => q.i) rfl (.mk _ b h st v1 v2 v3 kn o.sz))) s1 bk1 fun σ2 H2 e2 s2 => ?_
  have bk2 := bk1.up e2
  refine tb_drop (te_keepB (T := T) (en := ⟨some (.change r), r, e.c, e.p⟩) hX B (by decide) (ev_var (Vr 0 rfl) rfl)
    (ev_tup4 (ev_tup2 (ev_gstr hX (G 1 rfl) tx.change) (ev_var (Vr 1 rfl) rfl)) (ev_var (Vr 1 rfl) rfl) (ev_bsold (en := e) hX B (by decide) kn (ev_var (Vr 0 rfl) rfl) o.la) (ev_bpaid (en := e) hX B (by decide) kn (ev_var (Vr 0 rfl) rfl) o.la)) s2 bk2 (by have := o.sz; omega) fun H4 f4 b4 => ?_)
  exact tb_nil (kk H4 ((Fr.same (e1.trans e2)).trans f4) b4)
end
end BL
end

section
set_option Elab.async false
set_option linter.all false
set_option maxRecDepth 100000
set_option maxHeartbeats 4000000
/-! BMh: __eq__. -/
namespace BL
open PySem PySem.Spec PyProof.Rows L2
section
variable {P : Program} {w : World} {K : PySem.W.Frag} {mg : Str → Option Value} {base : Heap} {k : Nat} {T : List (Addr × Str)}
variable {X : Cx} {Γ Γ' : Gm} {Φ : MP} {a b c e tg it : Expr} {es : List Expr} {pos p : Pos} {s t : Sv} {ss : List Sv} {σ : L2.St} {H : Hp} {D : Ends} {st : Stmt} {sts bd el : List Stmt} {C : Addr}
/-- isinstance(e, x), x a class of the module -/
theorem ev_isiC {x : Str} {t : Value} {r : Bool} {p3 : Pos} (hX : In P w K mg base k X) (g : GlAt X "isinstance") (hm : mg "isinstance" = none) (gT : GlAt X x) (hmT : mg x = some (.ref C)) (ha : Ev K X Γ Φ e s) (ty : ∀ H v, Φ.p H → s.ok K H v → TyX K H v t) (hk : PySem.W.kitOne K t (.ref C) = some r)
    (he : starEach [e, .Name x p3] X.env = (false, eval e X.env) :: starEach [.Name x p3] X.env := by rfl) (he2 : starEach [.Name x p3] X.env = (false, eval (.Name x p3) X.env) :: starEach [] X.env := by rfl) (hpl : (backTo pos (starEach [.Name x p3] X.env)).any (·.1) = false := by rfl) :
    Ev K X Γ Φ (.Call (.Name "isinstance" p) [e, .Name x p3] [] pos) (.d (.bool r)) :=
  ev_callB hX g call_isi hm rfl (eva_cons ha (eva_cons (ev_gref hX gT hmT) eva_nil he2) he) (fun vs H Q h hp k => by
    obtain ⟨v, u, rfl, h1, h2⟩ := sv2 h
    cases (show u = V.ref C from h2)
    exact ⟨v, .ref C, t, .ref C, r, rfl, .own C, by rw [hX.K]; exact ty H v hp h1, by rw [hX.K]; exact hk, k _ H (Same.refl H) (.bl _)⟩) he hpl
/-- the deeds of a state -/
def ddsB (l : List Ent) : PyData := .list (l.map fun e => ddB e.dd)
def ddsO (l : List Ent) : PyData := .list (l.map fun e => ddO e.dd)
inductive R_eq (K : PySem.W.Frag) (C : Addr) : V → V → MP → Bool → Prop where
  | no (Φ : MP) (b : Addr) (v : V) (d : PyData) (hd : ∀ H, Φ.p H → Dp K H v d) (t : d = .none ∨ (∃ i, d = .int i) ∨ ∃ ds, d = .tuple ds) : R_eq K C (.ref b) v Φ false
  | bk (Φ : MP) (b b' : Addr) (h h' : Hl) (st st' : Stt) (v1 v2 v3 u1 u2 u3 : V) (e0 e0' : Ent) (n : Nat) (kn : Knows K C Φ b h st v1 v2 v3) (kn' : Knows K C Φ b' h' st' u1 u2 u3) (hd : st.past.head? = some e0) (hd' : st'.past.head? = some e0') (ok : ∀ e ∈ st.past, e.Ok h n) (ok' : ∀ e ∈ st'.past, e.Ok h' n)
      (hz : st.past.length ≤ 900) (hz' : st'.past.length ≤ 900) :
      R_eq K C (.ref b) (.ref b') Φ (PyData.eqv (.tuple [h.d, e0.dB]) (.tuple [h'.d, e0'.dB]) && PyData.eqv (ddsB st.past) (ddsB st'.past))
theorem sh_hl (h : Hl) : Sh 2 h.d := sh_tup (n := 1) fun x hx => by
  rcases List.mem_cons.mp hx with rfl | hx; exact (sh_int _).mono (by decide)
  rw [List.mem_singleton.mp hx]; exact sh_iT _
theorem sh_first {h : Hl} {n : Nat} {e : Ent} (o : e.Ok h n) : SeqAt.shaped (.tuple [h.d, e.dB]) = true := (sh_tup (n := 7) fun x hx => by
  rcases List.mem_cons.mp hx with rfl | hx; exact (sh_hl h).mono (by decide)
  rw [List.mem_singleton.mp hx]; exact sh_dB o).shaped (by decide)
theorem sh_ddsB {h : Hl} {n : Nat} {l : List Ent} (o : ∀ e ∈ l, e.Ok h n) : SeqAt.shaped (ddsB l) = true := (sh_lst (n := 6) fun x hx => by obtain ⟨e, he, rfl⟩ := List.mem_map.mp hx; exact sh_ddB (o e he).d).shaped (by decide)
theorem sh_ddsO {h : Hl} {n : Nat} {l : List Ent} (o : ∀ e ∈ l, e.Ok h n) : SeqAt.shaped (ddsO l) = true := (sh_lst (n := 6) fun x hx => by obtain ⟨e, he, rfl⟩ := List.mem_map.mp hx; exact sh_ddO (o e he).d).shaped (by decide)
theorem head_at {st : Stt} {e0 : Ent} (hd : st.past.head? = some e0) : atI (st.past.map Ent.dB) 0 = some e0.dB := by
  cases q : st.past with
  | nil => rw [q] at hd; cases hd
  | cons x r => rw [q] at hd; cases hd; exact atI_zero _ _
theorem f_beq {g : Addr} {fd : FuncData} (tx : Tx mg) (B : BookF K mg C) (F : Fun K "__eq__" "Book.__eq__" s_Book___eq g fd) : FnOk P w K mg base CX0 1 g fd ["self", "other"] (spE2 K (R_eq K C)) := by
  refine em_mk F sc_Book___eq (fun vs H Q E h => by obtain ⟨_, _, _, _, rfl, _⟩ := h; rfl) (fun X hX hn vs H Q h => ?_) fun vs H Q E h => h
  have Vr := fun (j : Nat) {i : Nat} {x : Str} e => (tab_loc tb_Book___eq hn (i := i) (x := x) j e).1
  have G := fun (j : Nat) {x : Str} e => tab_glo tb_Book___eq hn (x := x) j e
  obtain ⟨u, v, Φ, r, rfl, hp, hR, kk⟩ := h
  cases hR with
  | no _ b _ d hd t =>
    have s0 : Slots K (L2.start n_Book___eq [.ref b, v]) H (startS n_Book___eq [.r (.ref b), .d d]) := startS_slots (.cons rfl (.cons (hd H hp) .nil))
    have hk : PySem.W.kitOne K (.type (tyN d)) (.ref C) = some false := by
      rcases t with rfl | ⟨i, rfl⟩ | ⟨ds, rfl⟩
      · exact B.kN
      · exact B.kI
      · exact B.kT
    refine tb_ifP (Φ := Φ) (x := true) (EvT.ofW (EvW.to (evw_or (y := true) (evt_not (evt_val (ev_isiC (s := .d d) hX (G 0 rfl) tx.isi (G 1 rfl) B.mg (ev_var (Vr 1 rfl) rfl) (fun H v _ h => dp_ty h) hk))) (fun z => nomatch z)) rfl)) s0 hp (fun _ H1 e1 => ?_) fun z => nomatch z
    exact tb_ret (Φ := MP.top) ev_bl (s0.up e1) trivial fun v H2 e2 d2 => by rw [dp_bl d2]; exact kk H2 (e1.trans e2)
  | bk _ b b' h h' st st' v1 v2 v3 u1 u2 u3 e0 e0' n kn kn' hd hd' ok ok' hz hz' =>
    have s0 : Slots K (L2.start n_Book___eq [.ref b, .ref b']) H (startS n_Book___eq [.r (.ref b), .r (.ref b')]) := startS_slots (.cons rfl (.cons rfl .nil))
    have m0 : e0 ∈ st.past := List.mem_of_head? hd
    have m0' : e0' ∈ st'.past := List.mem_of_head? hd'
    refine tb_ifP (Φ := Φ) (x := !PyData.eqv (.tuple [h.d, e0.dB]) (.tuple [h'.d, e0'.dB])) (EvT.ofW (EvW.to (evw_or (evt_not (evt_val (ev_isiC (s := .r (.ref b')) (t := .ref C) hX (G 0 rfl) tx.isi (G 1 rfl) B.mg (ev_var (Vr 1 rfl) rfl) (fun H v q z => by
      cases (show v = V.ref b' from z)
      obtain ⟨dx, hi⟩ := (kn' H q).i
      exact .base (B.isB hi)) B.kB))) (fun _ => evw_or1 (evt_ne hX (ev_tup2 (ev_hallF hX B kn (ev_var (Vr 0 rfl) rfl)) (ev_ixT (d := e0.dB) hX (ev_pastF hX B kn (ev_var (Vr 0 rfl) rfl)) ev_int (head_at hd)))
        (ev_tup2 (ev_hallF hX B kn' (ev_var (Vr 1 rfl) rfl)) (ev_ixT (d := e0'.dB) hX (ev_pastF hX B kn' (ev_var (Vr 1 rfl) rfl)) ev_int (head_at hd'))) (sh_first (ok _ m0)) (sh_first (ok' _ m0'))))) (by simp))) s0 hp (fun x1 H1 e1 => ?_) fun x1 H1 e1 => ?_
    · exact tb_ret (Φ := MP.top) ev_bl (s0.up e1) trivial fun v H2 e2 d2 => by
        rw [dp_bl d2]
        have z : PyData.eqv (.tuple [h.d, e0.dB]) (.tuple [h'.d, e0'.dB]) = false := by simpa using x1
        rw [z] at kk
        exact kk H2 (e1.trans e2)
    · refine tb_nil ?_
      refine tb_ret (Φ := Φ) (ev_eq (x := ddsB st.past) (y := ddsB st'.past) hX
        (ev_lcM [("one", 2)] [(2, "one")] [] [] st.past Ent.dB (fun e => ddB e.dd) hX hn (by decide +kernel) (evi_tup hX (ev_pastF hX B kn (ev_var (Vr 0 rfl) rfl)))
          (fun e _ => ⟨_, fun X' hX' B' => ⟨tg_name hX'.nd (B'.o 0 rfl).2 (by simp), ev_ixT (ds := [ddB e.dd, e.r.d, iT e.c, .int e.p]) hX' (ev_var (B'.o 0 rfl).1 rfl) ev_int rfl⟩⟩) (fun e _ => nl_ddB _) (by omega))
        (ev_lcM [("one", 2)] [(2, "one")] [] [] st'.past Ent.dB (fun e => ddB e.dd) hX hn (by decide +kernel) (evi_tup hX (ev_pastF hX B kn' (ev_var (Vr 1 rfl) rfl)))
          (fun e _ => ⟨_, fun X' hX' B' => ⟨tg_name hX'.nd (B'.o 0 rfl).2 (by simp), ev_ixT (ds := [ddB e.dd, e.r.d, iT e.c, .int e.p]) hX' (ev_var (B'.o 0 rfl).1 rfl) ev_int rfl⟩⟩) (fun e _ => nl_ddB _) (by omega))
        (sh_ddsB ok) (sh_ddsB ok')) (s0.up e1) (Φ.up e1 hp) fun v H2 e2 d2 => ?_
      rw [dp_bl d2]
      have z : PyData.eqv (.tuple [h.d, e0.dB]) (.tuple [h'.d, e0'.dB]) = true := by simpa using x1
      rw [z, Bool.true_and] at kk
      exact kk H2 (e1.trans e2)
end
end BL
end

section
set_option Elab.async false
set_option linter.all false
set_option maxRecDepth 100000
set_option maxHeartbeats 4000000
/-! BMi: states, how they go on; _law_stands. -/
namespace BL
open PySem PySem.Spec PyProof.Rows L2
/-- a state of a book of hall h that began with rule r0 -/
structure StI (h : Hl) (r0 : Rl) (n : Nat) (st : Stt) : Prop where
  hd : ∃ l, st.past = ⟨none, r0, none0 h, 0⟩ :: l
  tl : ∀ e ∈ st.past.tail, e.dd ≠ none
  lt : ∀ e ∈ st.later, e.dd ≠ none
  al : ∀ e ∈ st.past ++ st.later, e.Ok h n
  sz : st.past.length + st.later.length ≤ n
theorem StI.mono {h : Hl} {r0 : Rl} {n m : Nat} {st : Stt} (s : StI h r0 n st) (l : n ≤ m) : StI h r0 m st := ⟨s.hd, s.tl, s.lt, fun e he => (s.al e he).mono l, Nat.le_trans s.sz l⟩
theorem StI.ne {h : Hl} {r0 : Rl} {n : Nat} {st : Stt} (s : StI h r0 n st) : st.past ≠ [] := by obtain ⟨l, e⟩ := s.hd; rw [e]; exact List.cons_ne_nil _ _
theorem StI.last {h : Hl} {r0 : Rl} {n : Nat} {st : Stt} (s : StI h r0 n st) : ∃ e, st.past.getLast? = some e ∧ e.Ok h n := by
  refine ⟨st.past.getLast s.ne, List.getLast?_eq_some_getLast s.ne, s.al _ (List.mem_append_left _ (List.getLast_mem s.ne))⟩
theorem StI.begin {h : Hl} {r0 : Rl} (ok : h.Ok) (ro : r0.Ok h) : StI h r0 1 (beg h r0) :=
  ⟨⟨[], rfl⟩, fun e he => (nomatch he), fun e he => (nomatch he), fun e he => by
    have he' : e ∈ [(⟨none, r0, none0 h, 0⟩ : Ent)] := by simpa [beg] using he
    rw [List.mem_singleton.mp he']
    exact ⟨ro, (none0_sn ok).so, Int.le_refl 0, (show (0 : Int) ≤ 99 * ((1 : Nat) : Int) by decide), fun d hd => (nomatch hd)⟩, by simp [beg]⟩
/-- a deed is done -/
theorem StI.keep {h : Hl} {r0 : Rl} {n : Nat} {st : Stt} {e : Ent} (s : StI h r0 n st) (o : e.Ok h (n + 1)) (d : e.dd ≠ none) : StI h r0 (n + 1) ⟨st.past ++ [e], []⟩ := by
  obtain ⟨l, hl⟩ := s.hd
  refine ⟨⟨l ++ [e], by rw [hl]; rfl⟩, fun x hx => ?_, fun x hx => (nomatch hx), fun x hx => ?_, ?_⟩
  · have hx' : x ∈ (st.past ++ [e]).tail := hx
    rw [hl] at hx'
    rcases List.mem_append.mp (show x ∈ l ++ [e] from hx') with q | q
    · exact s.tl x (by rw [hl]; exact q)
    · rw [List.mem_singleton.mp q]; exact d
  · have hx' : x ∈ st.past ++ [e] := by simpa using hx
    rcases List.mem_append.mp hx' with q | q
    · exact (s.al x (List.mem_append_left _ q)).mono (Nat.le_succ n)
    · rw [List.mem_singleton.mp q]; exact o
  · have := s.sz
    simp
    omega
theorem cheap_nn {c : List Int} (hp : ∀ x ∈ c, 0 ≤ x) (k : Nat) : 0 ≤ c.getD k 0 := getD_mem_ge hp k
theorem sold_up {h : Hl} {c : List Int} {k : Nat} (s : Sold h c) (hk : k < h.fs.length) (q : c.sum < h.s) : Sold h (more c k 1) :=
  ⟨by rw [more_len (by rw [s.n]; exact hk), s.n], more_nonneg s.p (by have := cheap_nn s.p k; omega), by rw [more_sum (by rw [s.n]; exact hk)]; omega⟩
theorem sold_dn {h : Hl} {c : List Int} {k : Nat} (s : Sold h c) (hk : k < h.fs.length) (q : 0 < c.getD k 0) : Sold h (more c k (-1)) :=
  ⟨by rw [more_len (by rw [s.n]; exact hk), s.n], more_nonneg s.p (by omega), by have := s.m; rw [more_sum (by rw [s.n]; exact hk)]; omega⟩
theorem step_ok {h : Hl} {r : Rl} {c : List Int} {p : Int} {k : Nat} (ro : r.OkR h) (s : Sold h c) (hk : k < h.fs.length) : Sold h (step h r c p k).1 ∧ p ≤ (step h r c p k).2.1 ∧ (step h r c p k).2.1 ≤ p + 99 := by
  unfold step
  by_cases q : c.sum < h.s ∧ lets h r c k = true
  · rw [if_pos q]
    exact ⟨sold_up s hk q.1, Int.le_refl _, by show p ≤ p + 99; omega⟩
  · rw [if_neg q]
    have triv : Sold h c ∧ p ≤ p ∧ p ≤ p + 99 := ⟨s, Int.le_refl _, by omega⟩
    cases r with
    | plain w l => exact triv
    | all a b => exact triv
    | any a b => exact triv
    | oust a fee =>
      have rf : 0 ≤ fee ∧ fee ≤ 99 := ro.2
      show Sold h (stepO h fee c p k).1 ∧ p ≤ (stepO h fee c p k).2.1 ∧ (stepO h fee c p k).2.1 ≤ p + 99
      unfold stepO
      cases z : cheap c with
      | none => exact triv
      | some j =>
        dsimp only
        by_cases g : j < k ∧ fee < h.fs.getD k 0 - h.fs.getD j 0
        · rw [if_pos g]
          obtain ⟨jl, jp⟩ := cheap_lt z
          have jf : j < h.fs.length := by rw [← s.n]; exact jl
          have s1 := sold_dn s jf jp
          have sm : (more c j (-1)).sum = c.sum + -1 := more_sum jl
          exact ⟨sold_up s1 hk (by have := s.m; omega), by show p ≤ p + fee; omega, by show p + fee ≤ p + 99; omega⟩
        · rw [if_neg g]
          exact triv
theorem StI.call {h : Hl} {r0 : Rl} {n : Nat} {st : Stt} {e : Ent} {k : Nat} (s : StI h r0 n st) (la : st.past.getLast? = some e) (hk : k < h.fs.length) : StI h r0 (n + 1) (stCall h st e k) := by
  have o := s.al e (List.mem_append_left _ (List.mem_of_getLast? la))
  obtain ⟨a, b, c⟩ := step_ok (p := e.p) o.r.ok o.c hk
  exact s.keep ⟨o.r, a, by have := o.p0; show 0 ≤ (step h e.r e.c e.p k).2.1; omega, by have := o.p1; show (step h e.r e.c e.p k).2.1 ≤ 99 * ((n + 1 : Nat) : Int); omega, fun d hd => by cases hd; exact hk⟩ (by simp)
theorem StI.give {h : Hl} {r0 : Rl} {n : Nat} {st : Stt} {e : Ent} {k : Nat} (s : StI h r0 n st) (la : st.past.getLast? = some e) (hk : k < h.fs.length) (q : e.c.getD k 0 ≠ 0) : StI h r0 (n + 1) (stGive st e k) := by
  have o := s.al e (List.mem_append_left _ (List.mem_of_getLast? la))
  exact s.keep ⟨o.r, sold_dn o.c hk (by have := cheap_nn o.c.p k; omega), o.p0, by have := o.p1; show e.p ≤ 99 * ((n + 1 : Nat) : Int); omega, fun d hd => by cases hd; exact hk⟩ (by simp)
theorem StI.change {h : Hl} {r0 : Rl} {n : Nat} {st : Stt} {e : Ent} {r : Rl} (s : StI h r0 n st) (la : st.past.getLast? = some e) (ro : r.Ok h) : StI h r0 (n + 1) (stChange st e r) := by
  have o := s.al e (List.mem_append_left _ (List.mem_of_getLast? la))
  exact s.keep ⟨ro, o.c, o.p0, by have := o.p1; show e.p ≤ 99 * ((n + 1 : Nat) : Int); omega, fun d hd => by cases hd; exact ro⟩ (by simp)
theorem StI.undo {h : Hl} {r0 : Rl} {n : Nat} {st : Stt} {l : List Ent} {x : Ent} (s : StI h r0 n st) (e : st.past = l ++ [x]) (ne : l ≠ []) : StI h r0 n ⟨l, x :: st.later⟩ := by
  obtain ⟨t, ht⟩ := s.hd
  obtain ⟨f, r, rfl⟩ := List.exists_cons_of_ne_nil ne
  rw [e] at ht
  obtain ⟨hf, hr⟩ := List.cons.inj (show f :: (r ++ [x]) = _ :: t from ht)
  have tl : ∀ y ∈ r ++ [x], y.dd ≠ none := fun y hy => s.tl y (by rw [e]; exact hy)
  refine ⟨⟨r, by rw [hf]⟩, fun y hy => tl y (List.mem_append_left _ hy), fun y hy => ?_, fun y hy => ?_, ?_⟩
  · rcases List.mem_cons.mp hy with rfl | hy
    · exact tl y (List.mem_append_right _ List.mem_cons_self)
    · exact s.lt y hy
  · refine s.al y ?_
    rw [e]
    rcases List.mem_append.mp hy with q | q
    · exact List.mem_append_left _ (List.mem_append_left _ q)
    · rcases List.mem_cons.mp q with rfl | q
      · exact List.mem_append_left _ (List.mem_append_right _ List.mem_cons_self)
      · exact List.mem_append_right _ q
  · have := s.sz
    rw [e] at this
    simp at this ⊢
    omega
theorem StI.redo {h : Hl} {r0 : Rl} {n : Nat} {st : Stt} {l : List Ent} {x : Ent} (s : StI h r0 n st) (e : st.later = x :: l) : StI h r0 n ⟨st.past ++ [x], l⟩ := by
  obtain ⟨t, ht⟩ := s.hd
  refine ⟨⟨t ++ [x], by rw [ht]; rfl⟩, fun y hy => ?_, fun y hy => s.lt y (by rw [e]; exact List.mem_cons_of_mem _ hy), fun y hy => ?_, ?_⟩
  · have hy' : y ∈ (st.past ++ [x]).tail := hy
    rw [ht] at hy'
    rcases List.mem_append.mp (show y ∈ t ++ [x] from hy') with q | q
    · exact s.tl y (by rw [ht]; exact q)
    · rw [List.mem_singleton.mp q]; exact s.lt x (by rw [e]; exact List.mem_cons_self)
  · refine s.al y ?_
    rw [e]
    rcases List.mem_append.mp hy with q | q
    · rcases List.mem_append.mp q with q | q
      · exact List.mem_append_left _ q
      · rw [List.mem_singleton.mp q]; exact List.mem_append_right _ List.mem_cons_self
    · exact List.mem_append_right _ (List.mem_cons_of_mem _ q)
  · have := s.sz
    rw [e] at this
    simp at this ⊢
    omega
/-- the calls of a state -/
theorem calls_tail {h : Hl} {r0 : Rl} {n : Nat} {st : Stt} (s : StI h r0 n st) : callsOf st.past = callsOf st.past.tail := by
  obtain ⟨l, e⟩ := s.hd
  rw [e]; rfl
theorem calls_ok {h : Hl} {r0 : Rl} {n : Nat} {st : Stt} (s : StI h r0 n st) (hn : n ≤ 400) : RowOk h (callsOf st.past) := by
  rw [callsOf_eq]
  refine ⟨by rw [List.length_map]; have := List.length_filter_le isCall st.past; have := s.sz; omega, fun k hk => ?_⟩
  obtain ⟨e, he, rfl⟩ := List.mem_map.mp hk
  obtain ⟨h1, h2⟩ := List.mem_filter.mp he
  have o := s.al e (List.mem_append_left _ h1)
  obtain ⟨dd, _, _, _⟩ := e
  rcases dd with _ | (_ | _ | _)
  · cases h2
  · exact o.d _ rfl
  · cases h2
  · cases h2
theorem StI.bk {h : Hl} {r0 : Rl} {n : Nat} {st : Stt} {e : Ent} (s : StI h r0 n st) (ok : h.Ok) (hn : n ≤ 400) (la : st.past.getLast? = some e) : BkOk h st e := by
  have o := s.al e (List.mem_append_left _ (List.mem_of_getLast? la))
  exact ⟨ok, la, o.r, o.c.n, by have := s.sz; omega⟩
end BL
end

section
set_option Elab.async false
set_option linter.all false
set_option maxRecDepth 100000
set_option maxHeartbeats 4000000
/-! BMj: _law_stands. -/
namespace BL
open PySem PySem.Spec PyProof.Rows L2
/-! ### how great what is shown is -/
theorem zip_bound : ∀ (fs c : List Int), (∀ f ∈ fs, 1 ≤ f ∧ f ≤ 99) → (∀ x ∈ c, 0 ≤ x) → 0 ≤ (List.zipWith (fun a b => a * b) fs c).sum ∧ (List.zipWith (fun a b => a * b) fs c).sum ≤ 99 * c.sum
  | [], c, _, hc => by have := sum_nonneg hc; simp; omega
  | f :: fs, [], _, _ => by simp
  | f :: fs, n :: c, hf, hc => by
    obtain ⟨a, b⟩ := zip_bound fs c (fun x hx => hf x (List.mem_cons_of_mem _ hx)) fun x hx => hc x (List.mem_cons_of_mem _ hx)
    obtain ⟨f1, f2⟩ := hf f List.mem_cons_self
    have n0 := hc n List.mem_cons_self
    rw [List.zipWith_cons_cons, List.sum_cons, List.sum_cons]
    have p1 : 0 ≤ f * n := Int.mul_nonneg (by omega) n0
    have p2 : f * n ≤ 99 * n := Int.mul_le_mul_of_nonneg_right f2 n0
    omega
theorem worth_bound {h : Hl} {c : List Int} (ok : h.Ok) (s : Sold h c) : 0 ≤ worth h c ∧ worth h c ≤ 600 := by
  obtain ⟨a, b⟩ := zip_bound h.fs c ok.f s.p
  have := s.m
  have := ok.s6
  exact ⟨a, by unfold worth; omega⟩
theorem sw_ints {l : List Int} {n : Nat} (hl : l.length ≤ n) (hb : ∀ x ∈ l, -1000000 ≤ x ∧ x ≤ 1000000) : Sw 1 (41 * n) (iT l) :=
  (sw_tup (n := 0) (wt := 40) fun d hd => by
    obtain ⟨i, hi, rfl⟩ := List.mem_map.mp hd
    have := hb i hi
    exact sw_int (by omega) (by omega)).mono (by decide) (by rw [List.length_map]; exact Nat.mul_le_mul_left 41 hl)
theorem sw_lim {h : Hl} {l : List Int} (ok : h.Ok) (o : LimOk h l) : Sw 1 164 (iT l) := sw_ints (n := 4) (by rw [o.n]; exact ok.n4) fun x hx => by have := o.b x hx; have := ok.s6; omega
theorem sw_2 {a b : PyData} {n wt : Nat} (ha : Sw n wt a) (hb : Sw n wt b) : Sw (n + 1) ((wt + 1) * 2) (.tuple [a, b]) := sw_tup (ds := [a, b]) fun d hd => by
  rcases List.mem_cons.mp hd with rfl | hd
  · exact ha
  · rw [List.mem_singleton.mp hd]; exact hb
theorem sw_3 {a b c : PyData} {n wt : Nat} (ha : Sw n wt a) (hb : Sw n wt b) (hc : Sw n wt c) : Sw (n + 1) ((wt + 1) * 3) (.tuple [a, b, c]) := sw_tup (ds := [a, b, c]) fun d hd => by
  rcases List.mem_cons.mp hd with rfl | hd
  · exact ha
  · rcases List.mem_cons.mp hd with rfl | hd
    · exact hb
    · rw [List.mem_singleton.mp hd]; exact hc
theorem pow4 (n : Nat) : 1 ≤ 4 ^ n := Nat.pow_pos (by decide)
theorem sw_in {h : Hl} (ok : h.Ok) : ∀ {r : Rl}, r.In h → Sw (r.deep + 2) (330 * 4 ^ r.deep) r.d
  | .plain w l, o => by
    have : Sw 1 164 (.str w.nm) := (sw_str (by cases w <;> decide +kernel) (by cases w <;> decide +kernel)).mono (by decide) (by decide)
    exact sw_2 this (sw_lim ok o.1)
  | .all a b, o => by
    have ha := sw_in ok o.1
    have hb := sw_in ok o.2
    have e : Rl.deep (.all a b) = max a.deep b.deep + 1 := by simp only [Rl.deep]; omega
    have p := pow4 (max a.deep b.deep)
    have s1 : Sw (max a.deep b.deep + 2) (330 * 4 ^ max a.deep b.deep) (.str "all") := (sw_str (by decide +kernel) (by decide +kernel)).mono (by omega) (by omega)
    have s2 := ha.mono (n' := max a.deep b.deep + 2) (wt' := 330 * 4 ^ max a.deep b.deep) (by omega) (Nat.mul_le_mul_left _ (Nat.pow_le_pow_right (by decide) (by omega)))
    have s3 := hb.mono (n' := max a.deep b.deep + 2) (wt' := 330 * 4 ^ max a.deep b.deep) (by omega) (Nat.mul_le_mul_left _ (Nat.pow_le_pow_right (by decide) (by omega)))
    rw [e, Nat.pow_succ]
    exact (sw_3 s1 s2 s3).mono (by omega) (by omega)
  | .any a b, o => by
    have ha := sw_in ok o.1
    have hb := sw_in ok o.2
    have e : Rl.deep (.any a b) = max a.deep b.deep + 1 := by simp only [Rl.deep]; omega
    have p := pow4 (max a.deep b.deep)
    have s1 : Sw (max a.deep b.deep + 2) (330 * 4 ^ max a.deep b.deep) (.str "any") := (sw_str (by decide +kernel) (by decide +kernel)).mono (by omega) (by omega)
    have s2 := ha.mono (n' := max a.deep b.deep + 2) (wt' := 330 * 4 ^ max a.deep b.deep) (by omega) (Nat.mul_le_mul_left _ (Nat.pow_le_pow_right (by decide) (by omega)))
    have s3 := hb.mono (n' := max a.deep b.deep + 2) (wt' := 330 * 4 ^ max a.deep b.deep) (by omega) (Nat.mul_le_mul_left _ (Nat.pow_le_pow_right (by decide) (by omega)))
    rw [e, Nat.pow_succ]
    exact (sw_3 s1 s2 s3).mono (by omega) (by omega)
  | .oust a f, o => o.elim
theorem sw_rl {h : Hl} {r : Rl} (ok : h.Ok) (ro : r.Ok h) : Sw 5 22000 r.d := by
  have dd := ro.d
  have key : ∀ {r : Rl}, r.In h → r.deep ≤ 3 → Sw 5 22000 r.d := fun {r} o d => (sw_in ok o).mono (by omega) (Nat.le_trans (Nat.mul_le_mul_left 330 (Nat.pow_le_pow_right (by decide) d)) (by decide))
  have ro' := ro.ok
  cases r with
  | oust a fee =>
    have o : a.In h ∧ 0 ≤ fee ∧ fee ≤ 99 := ro'
    have d : a.deep ≤ 2 := by simp only [Rl.deep] at dd; omega
    have sa : Sw 4 5280 a.d := (sw_in ok o.1).mono (by omega) (Nat.le_trans (Nat.mul_le_mul_left 330 (Nat.pow_le_pow_right (by decide) d)) (by decide))
    exact (sw_3 ((sw_str (x := "oust") (by decide +kernel) (by decide +kernel)).mono (by decide) (by decide)) sa ((sw_int (i := fee) (by omega) (by omega)).mono (by decide) (by decide))).mono (by decide) (by decide)
  | plain w l => exact key ro' dd
  | all a b => exact key ro' dd
  | any a b => exact key ro' dd
theorem sw_hl {h : Hl} (ok : h.Ok) : Sw 5 22000 h.d := by
  have a := ok.s1
  have b := ok.s6
  exact (sw_2 ((sw_int (i := h.s) (by omega) (by omega)).mono (n' := 1) (wt' := 164) (by decide) (by decide)) (sw_ints (l := h.fs) (n := 4) ok.n4 fun x hx => by have := ok.f x hx; omega)).mono (by decide) (by decide)
theorem sum_ge {c : List Int} (hp : ∀ x ∈ c, 0 ≤ x) : ∀ x ∈ c, x ≤ c.sum := by
  induction c with
  | nil => intro x hx; cases hx
  | cons y r ih =>
    intro x hx
    rw [List.sum_cons]
    have hr := sum_nonneg (c := r) fun z hz => hp z (List.mem_cons_of_mem _ hz)
    have hy := hp y List.mem_cons_self
    rcases List.mem_cons.mp hx with rfl | hx
    · omega
    · have := ih (fun z hz => hp z (List.mem_cons_of_mem _ hz)) x hx; omega
theorem sw_sold {h : Hl} {c : List Int} (ok : h.Ok) (s : Sold h c) : Sw 5 22000 (iT c) := (sw_ints (l := c) (n := 4) (by rw [s.n]; exact ok.n4) fun x hx => by
  have := s.p x hx; have := sum_ge s.p x hx; have := s.m; have := ok.s6; omega).mono (by decide) (by decide)
theorem sw_row {h : Hl} {row : List Nat} (ok : h.Ok) (r : RowOk h row) : Sw 5 22000 (rowD row) := by
  unfold rowD
  exact (sw_tup (n := 0) (wt := 40) fun d hd => by
    obtain ⟨i, hi, rfl⟩ := List.mem_map.mp hd
    have := r.2 i hi
    have := ok.n4
    exact sw_int (by omega) (by omega)).mono (by decide) (by rw [List.length_map]; have := r.1; omega)
theorem sw_i {i : Int} (h1 : -999999999999 ≤ i) (h2 : i ≤ 999999999999) : Sw 5 22000 (.int i) := (sw_int h1 h2).mono (by decide) (by decide)
/-- what a book shows -/
def showD (h : Hl) (e : Ent) (st : Stt) : List PyData := [h.d, e.r.d, iT e.c, .int e.p, .int ((st.past.length - 1 : Nat) : Int), rowD (callsOf st.past), .int (worth h e.c - e.p), .int (worth h (seenF h (none0 h) (callsOf st.past)) - (worth h e.c - e.p))]
theorem showD_ok {h : Hl} {r0 : Rl} {n : Nat} {st : Stt} {e : Ent} (ok : h.Ok) (s : StI h r0 n st) (hn : n ≤ 400) (la : st.past.getLast? = some e) : Shows (.list (showD h e st)) := by
  have o := s.al e (List.mem_append_left _ (List.mem_of_getLast? la))
  have ro := calls_ok s hn
  have w1 := worth_bound ok o.c
  have w2 := worth_bound ok (seenF_sn ok (callsOf st.past) (none0 h) [] (none0_sn ok) ro.2).so
  have p0 := o.p0
  have p1 := o.p1
  have sz := s.sz
  refine Shows.lst ((sw_lst (n := 5) (wt := 22000) fun d hd => ?_).mono (by decide) (by show (22000 + 1) * 8 ≤ 1000000; decide))
  rcases List.mem_cons.mp hd with rfl | hd; exact sw_hl ok
  rcases List.mem_cons.mp hd with rfl | hd; exact sw_rl ok o.r
  rcases List.mem_cons.mp hd with rfl | hd; exact sw_sold ok o.c
  rcases List.mem_cons.mp hd with rfl | hd; exact sw_i (by omega) (by omega)
  rcases List.mem_cons.mp hd with rfl | hd; exact sw_i (by omega) (by omega)
  rcases List.mem_cons.mp hd with rfl | hd; exact sw_row ok ro
  rcases List.mem_cons.mp hd with rfl | hd; exact sw_i (by omega) (by omega)
  rw [List.mem_singleton.mp hd]; exact sw_i (by omega) (by omega)
section
variable {P : Program} {w : World} {K : PySem.W.Frag} {mg : Str → Option Value} {base : Heap} {k : Nat} {T : List (Addr × Str)}
variable {X : Cx} {Γ Γ' : Gm} {Φ : MP} {a b c e tg it : Expr} {es : List Expr} {pos p : Pos} {s t : Sv} {ss : List Sv} {σ : L2.St} {H : Hp} {D : Ends} {st : Stmt} {sts bd el : List Stmt} {C : Addr}
def spStands (K : PySem.W.Frag) (C : Addr) : Sp := fun vs H Q _ => ∃ (b o lc lg : Addr) (vh : V) (h : Hl) (r0 : Rl) (n : Nat) (st : Stt), vs = [.ref b, vh, .ref o] ∧ BkAt K C b h st H ∧ OwAt K lc lg o st H ∧ h.Ok ∧ Dp K H vh h.d ∧ StI h r0 n st ∧ n ≤ 400 ∧
  ∀ H', Same H H' → Q (.bl true) H'
theorem f_l_stands (tx : Tx mg) (B : BookF K mg C) (F : FnF K mg "_law_stands" s_l_stands ["_law_book", "_law_hall_so", "_law_own"]) (Fc : EFn P w K mg base 1 "_law_calls_in" (spCalls K)) (Fo : PFn P w K mg base 1 "_law_worth" R_worth) (Fb : PFn P w K mg base 1 "_law_best" R_best) (Fl : EFn P w K mg base 1 "_law_like" (spLike K))
    (Fw : PFn P w K mg base 1 "worth_of" R_worth) (Fh : PFn P w K mg base 5 "hindsight" R_hind) : EFn P w K mg base 7 "_law_stands" (spStands K C) := by
  refine efn_of F sc_l_stands (fun vs H Q E h => by obtain ⟨_, _, _, _, _, _, _, _, _, rfl, _⟩ := h; rfl) (fun X hX hgd hn vs H Q h => ?_) fun vs H Q E h => h
  have Vr := fun (j : Nat) {i : Nat} {x : Str} e => (tab_loc tb_l_stands hn (i := i) (x := x) j e).1
  have L := fun (j : Nat) {i : Nat} {x : Str} e => (tab_loc tb_l_stands hn (i := i) (x := x) j e).2
  have G := fun (j : Nat) {x : Str} e => tab_glo tb_l_stands hn (x := x) j e
  obtain ⟨b, o, lc, lg, vh, h, r0, n, st, rfl, ⟨v1, v2, v3, bk⟩, ⟨l1, l2, xs, ys, ow⟩, ok, hh, s, hn4, kk⟩ := h
  obtain ⟨en, la, eo⟩ := s.last
  have ro := calls_ok s hn4
  have sz := s.sz
  have s0 : Slots K (L2.start n_l_stands [.ref b, vh, .ref o]) H (startS n_l_stands [.r (.ref b), .d h.d, .r (.ref o)]) := startS_slots (.cons rfl (.cons hh (.cons rfl .nil)))
  have kb : ∀ H, ((BkVp K C b h st v1 v2 v3).and (OwVp K lc lg o l1 l2 xs ys st)).p H → BkV K C b h st v1 v2 v3 H := fun H q => q.1
  have ko : ∀ H, ((BkVp K C b h st v1 v2 v3).and (OwVp K lc lg o l1 l2 xs ys st)).p H → OwV K lc lg o l1 l2 xs ys st H := fun H q => q.2
  have hp : ((BkVp K C b h st v1 v2 v3).and (OwVp K lc lg o l1 l2 xs ys st)).p H := ⟨bk, ow⟩
  generalize (BkVp K C b h st v1 v2 v3).and (OwVp K lc lg o l1 l2 xs ys st) = Φ at kb ko hp
  refine tb_pure (Φ := Φ) (runS_unp (own := [3, 4, 5, 6]) (d := en.dO) (ev_ixL (i := -1) hX (ev_pastD hX (ev_var (Vr 2 rfl) rfl) ev_str ko) (ev_neg ev_int) (atI_last (by rw [List.getLast?_map, la]; rfl)) (by exact fun _ _ => rfl))
    (tg_tup hX (tgs_cons (tg_name hX.nd (L 3 rfl) (by simp)) (tgs_cons (tg_name hX.nd (L 4 rfl) (by simp)) (tgs_cons (tg_name hX.nd (L 5 rfl) (by simp)) (tgs_cons (tg_name hX.nd (L 6 rfl) (by simp)) tgs_nil)))) rfl)) s0 hp fun σ1 H1 e1 s1 => ?_
  have hp1 := Φ.up e1 hp
  refine tb_set hX (L 7 rfl) (te_callG hX hgd Fc (G 0 rfl) (by decide) (ta_cons (Ev.go (ev_var (Vr 2 rfl) rfl) s1 hp1 fun v H2 e2 d2 => ta_nil ?_)))
  cases (show v = V.ref o from d2)
  refine ⟨lc, lg, o, st, rfl, ⟨l1, l2, xs, ys, ko _ (Φ.up e2 hp1)⟩, by omega, fun vr H3 e3 d3 => ?_⟩
  have hp3 := Φ.up (e2.trans e3) hp1
  have s3 := Slots.set (i := 7) (s1.up (e2.trans e3)) (s := .d (rowD (callsOf st.past))) d3
  refine tb_pure (Φ := Φ) (runS_set hX (L 8 rfl) (ev_sub (ev_call (ds := [h.d, iT en.c]) hX Fo (G 1 rfl) (by decide) (eva_cons (ev_var (Vr 1 rfl) rfl) (eva_cons (ev_var (Vr 5 rfl) rfl) eva_nil)) (.mk h en.c ok eo.c.n)) (ev_var (Vr 6 rfl) rfl))) s3 hp3 fun σ4 H4 e4 s4 => ?_
  have hp4 := Φ.up e4 hp3
  refine tb_pure (Φ := Φ) (runS_set (s := .d (.list (showD h en st))) hX (L 9 rfl) (ev_lst (ds := showD h en st) (eva_cons (ev_var (Vr 1 rfl) rfl) (eva_cons (ev_var (Vr 4 rfl) rfl) (eva_cons (ev_var (Vr 5 rfl) rfl) (eva_cons (ev_var (Vr 6 rfl) rfl)
    (eva_cons (Ev.to (ev_sub (ev_lenL hX (G 2 rfl) tx.len (ev_pastD hX (ev_var (Vr 2 rfl) rfl) ev_str ko)) ev_int) (svI (by rw [List.length_map]; have := List.length_pos_iff.mpr s.ne; omega)))
    (eva_cons (ev_var (Vr 7 rfl) rfl) (eva_cons (ev_var (Vr 8 rfl) rfl) (eva_cons (Ev.to (ev_sub (ev_call (ds := [h.d, rowD (callsOf st.past)]) hX Fb (G 3 rfl) (by decide) (eva_cons (ev_var (Vr 1 rfl) rfl) (eva_cons (ev_var (Vr 7 rfl) rfl) eva_nil)) (.mk h _ ok ro)) (ev_var (Vr 8 rfl) rfl)) (svI (by rw [best_seen ok ro.2]))) eva_nil)))))))) (by show (8 : Nat) ≤ 1000; decide))) s4 hp4 fun σ5 H5 e5 s5 => ?_
  have hp5 := Φ.up e5 hp4
  obtain ⟨f1, fd1, m1⟩ := B.calls
  obtain ⟨f2, fd2, m2⟩ := B.got
  obtain ⟨f3, fd3, m3⟩ := B.regret
  have ct := calls_tail s
  refine tb_pure (Φ := Φ) (runS_set (s := .d (.list (showD h en st))) hX (L 10 rfl) (ev_lst (ds := showD h en st) (eva_cons (ev_bhall (en := en) hX B (by decide) kb (ev_var (Vr 0 rfl) rfl) la) (eva_cons (ev_brule (en := en) hX B (by decide) kb (ev_var (Vr 0 rfl) rfl) la) (eva_cons (ev_bsold (en := en) hX B (by decide) kb (ev_var (Vr 0 rfl) rfl) la) (eva_cons (ev_bpaid (en := en) hX B (by decide) kb (ev_var (Vr 0 rfl) rfl) la)
    (eva_cons (ev_blen hX tx B (G 2 rfl) (by decide) kb (by omega) (ev_var (Vr 0 rfl) rfl))
    (eva_cons (Ev.to (ev_meth0 (fs := fsB v1 v2 v3) (j := 1) hX B.cls m1.mt (f_bcalls tx B m1.fn) m1.bd (by decide) (ev_var (Vr 0 rfl) rfl) (fun H q => (kb H q).i) rfl (.mk Φ b h st v1 v2 v3 kb (by omega) s.tl)) (by rw [ct]))
    (eva_cons (ev_meth0 (fs := fsB v1 v2 v3) (j := 3) hX B.cls m2.mt (f_got B m2.fn Fw) m2.bd (by decide) (ev_var (Vr 0 rfl) rfl) (fun H q => (kb H q).i) rfl (.mk Φ b h st v1 v2 v3 en kb la ok eo.c.n))
    (eva_cons (Ev.to (ev_meth0 (fs := fsB v1 v2 v3) (j := 6) hX B.cls m3.mt (f_regret tx B m3.fn Fw Fh) m3.bd (by decide) (ev_var (Vr 0 rfl) rfl) (fun H q => (kb H q).i) rfl (.mk Φ b h st v1 v2 v3 en kb la ok eo.c.n (by omega) s.tl (by rw [← ct]; exact ro))) (by rw [ct])) eva_nil)))))))) (by show (8 : Nat) ≤ 1000; decide))) s5 hp5 fun σ6 H6 e6 s6 => ?_
  refine tb_retE (te_callG hX hgd Fl (G 4 rfl) (by decide) (ta_cons (Ev.goT (ev_var (Vr 10 rfl) rfl) s6 fun u1 H7 e7 d7 => ta_cons (Ev.goT (ev_var (Vr 9 rfl) rfl) (s6.up e7) fun u2 H8 e8 d8 => ta_nil ?_))))
  exact ⟨u1, u2, .list (showD h en st), rfl, dp_up e8 d7, d8, showD_ok ok s hn4 la, fun H9 e9 => kk H9 (((((((e1.trans e2).trans e3).trans e4).trans e5).trans e6).trans e7).trans (e8.trans e9))⟩
end
end BL
end

section
set_option Elab.async false
set_option linter.all false
set_option maxRecDepth 100000
set_option maxHeartbeats 4000000
/-! BMk: Trial; Book.trial. -/
namespace BL
open PySem PySem.Spec PyProof.Rows L2
/-- the class Trial -/
structure TrialF (K : PySem.W.Frag) (mg : Str → Option Value) (D : Addr) : Prop where
  cls : Cls K D
  mg : mg "Trial" = some (.ref D)
  nh : NoAttr K D "held_book"
  np : NoAttr K D "kept_past"
  nl : NoAttr K D "kept_later"
  init : ∃ f fd, Fun K "__init__" "Trial.__init__" s_Trial___init f fd ∧ Binds K fd ["self", "held_book"] [] ∧ Mk K D f
  enter : ∃ f fd, PySem.W.findIn K (.ref D) "__enter__" = some (some (.ref f)) ∧ PySem.W.isFn K (.ref f) = true ∧ Fun K "__enter__" "Trial.__enter__" s_Trial___enter f fd ∧ Binds K fd ["self"] []
  exit : ∃ f fd, PySem.W.findIn K (.ref D) "__exit__" = some (some (.ref f)) ∧ PySem.W.isFn K (.ref f) = true ∧ Fun K "__exit__" "Trial.__exit__" s_Trial___exit f fd ∧ Binds K fd ["self", "kind", "told", "trace"] []
def fsT (b : Addr) (v2 v3 : V) : List (Str × V) := [("held_book", .ref b), ("kept_past", v2), ("kept_later", v3)]
/-- the trial at t of the book at b, that keeps st -/
def TrAt (K : PySem.W.Frag) (D t b : Addr) (st : Stt) (H : Hp) : Prop := ∃ v2 v3, IsI D t (fsT b v2 v3) H ∧ Dp K H v2 (.tuple (st.past.map Ent.dB)) ∧ Dp K H v3 (.tuple (st.later.map Ent.dB))
/-- .. that keeps whatever -/
def TrEx (D t b : Addr) (H : Hp) : Prop := ∃ v2 v3, IsI D t (fsT b v2 v3) H
section
variable {K : PySem.W.Frag} {D t b : Addr} {st : Stt} {H H' : Hp} {T : List (Addr × Str)} {S : List Addr}
theorem TrAt.fr (q : TrAt K D t b st H) (f : Fr T S H H') (n : t ∉ S) : TrAt K D t b st H' := by
  obtain ⟨v2, v3, ⟨dx, i⟩, a, c⟩ := q
  exact ⟨v2, v3, ⟨dx, f.at i n⟩, dp_fr f (nl_tup (nls_dB _)) a, dp_fr f (nl_tup (nls_dB _)) c⟩
theorem TrEx.fr (q : TrEx D t b H) (f : Fr T S H H') (n : t ∉ S) : TrEx D t b H' := by
  obtain ⟨v2, v3, dx, i⟩ := q
  exact ⟨v2, v3, dx, f.at i n⟩
end
section
variable {P : Program} {w : World} {K : PySem.W.Frag} {mg : Str → Option Value} {base : Heap} {k : Nat} {T : List (Addr × Str)}
variable {X : Cx} {Γ Γ' : Gm} {Φ : MP} {a b c e tg it : Expr} {es : List Expr} {pos p : Pos} {s t : Sv} {ss : List Sv} {σ : L2.St} {H : Hp} {D : Ends} {st : Stmt} {sts bd el : List Stmt} {C DT : Addr}
/-- o.f = e, a reference -/
theorem tb_rfld {o : Expr} {x dx y : Addr} {f : Str} {fs : List (Str × V)} {pos' : Pos} (hX : In P w K mg base k X) (c : Cls K C) (n : NoAttr K C f) (hv : Ev K X Γ Φ e (.r (.ref y))) (ho : Ev K X Γ Φ o (.r (.ref x))) (ng : nlG Γ) (hs : Slots K σ H Γ) (hp : Φ.p H) (hi : H x = some (.ins C dx fs)) (hz : fs.length < 1000)
    (h : ∀ H2, Fr T [x] H H2 → Slots K σ H2 Γ → H2 x = some (.ins C dx (putF f (.ref y) fs)) → tB X sts D σ H2) (hw : swapsWith e (some (.Attribute o f pos')) pos.line X.env = pure false := by rfl) : tB X (.Assign [.Attribute o f pos'] e pos :: sts) D σ H :=
  tb_fld hX c n hv ho hs hp hi hz (fun v H1 e1 h1 i1 => by
    cases (show v = V.ref y from h1)
    have f2 : Fr T [x] H1 (upd H1 x (.ins C dx (putF f (.ref y) fs))) := Fr.upd i1 trivial (by simp)
    exact h _ ((Fr.same e1).trans f2) ((hs.up e1).fr f2 ng) upd_same) hw
def spTInit (K : PySem.W.Frag) (T : List (Addr × Str)) (D : Addr) : Sp := fun vs H Q _ => ∃ (t dx b : Addr), vs = [.ref t, .ref b] ∧ H t = some (.ins D dx []) ∧ ∀ H', Fr T [t] H H' → TrEx D t b H' → Q .non H'
theorem f_tinit {g : Addr} {fd : FuncData} (B : TrialF K mg DT) (F : Fun K "__init__" "Trial.__init__" s_Trial___init g fd) : FnOk P w K mg base CX0 1 g fd ["self", "held_book"] (spTInit K T DT) := by
  refine em_mk F sc_Trial___init (fun vs H Q E h => by obtain ⟨_, _, _, rfl, _⟩ := h; rfl) (fun X hX hn vs H Q h => ?_) fun vs H Q E h => h
  have Vr := fun (j : Nat) {i : Nat} {x : Str} e => (tab_loc tb_Trial___init hn (i := i) (x := x) j e).1
  obtain ⟨t, dx, b, rfl, hi, kk⟩ := h
  have s0 : Slots K (L2.start n_Trial___init [.ref t, .ref b]) H (startS n_Trial___init [.r (.ref t), .r (.ref b)]) := startS_slots (.cons rfl (.cons rfl .nil))
  have ng : nlG (startS n_Trial___init [.r (.ref t), .r (.ref b)]) := nlG_r (nlG_r nlG_nil)
  refine tb_rfld (T := T) (Φ := MP.top) hX B.cls B.nh (ev_var (Vr 1 rfl) rfl) (ev_var (Vr 0 rfl) rfl) ng s0 trivial hi (by simp) fun H2 f2 s2 i2 => ?_
  refine tb_bfld (T := T) (Φ := MP.top) (d := .tuple []) hX B.cls B.np (ev_tup (ds := []) eva_nil (by simp)) (ev_var (Vr 0 rfl) rfl) (nl_tup (by unfold nls; rfl)) ng s2 trivial i2 (putF_lt (by simp)) fun v2 H3 f3 d3 s3 i3 => ?_
  refine tb_bfld (T := T) (Φ := MP.top) (d := .tuple []) hX B.cls B.nl (ev_tup (ds := []) eva_nil (by simp)) (ev_var (Vr 0 rfl) rfl) (nl_tup (by unfold nls; rfl)) ng s3 trivial i3 (putF_lt (putF_lt (by simp))) fun v3 H4 f4 d4 s4 i4 => ?_
  exact tb_nil (kk H4 (f2.trans (f3.trans f4)) ⟨v2, v3, dx, i4⟩)
/-- Book.trial -/
def spTrial (T : List (Addr × Str)) (D : Addr) : Sp := fun vs H Q _ => ∃ (b : Addr), vs = [.ref b] ∧ ∀ q H', H q = none → Fr T [] H H' → TrEx D q b H' → Q (.ref q) H'
theorem f_btrial {g : Addr} {fd : FuncData} (B : TrialF K mg DT) (F : Fun K "trial" "Book.trial" s_Book_trial g fd) : FnOk P w K mg base CX0 3 g fd ["self"] (spTrial T DT) := by
  refine em_mk F sc_Book_trial (fun vs H Q E h => by obtain ⟨_, rfl, _⟩ := h; rfl) (fun X hX hn vs H Q h => ?_) fun vs H Q E h => h
  have Vr := fun (j : Nat) {i : Nat} {x : Str} e => (tab_loc tb_Book_trial hn (i := i) (x := x) j e).1
  have G := fun (j : Nat) {x : Str} e => tab_glo tb_Book_trial hn (x := x) j e
  obtain ⟨b, rfl, kk⟩ := h
  have s0 : Slots K (L2.start n_Book_trial [.ref b]) H (startS n_Book_trial [.r (.ref b)]) := startS_slots (.cons rfl .nil)
  obtain ⟨f, fd, h3, h4, h5⟩ := B.init
  refine tb_retE (te_make hX h5 (f_tinit (T := T) B h3) h4 (by decide) (G 0 rfl) B.mg (ta_cons (Ev.goT (ev_var (Vr 0 rfl) rfl) s0 fun v H1 e1 d1 => ta_nil fun q dx hq hdx hne => ?_)))
  cases (show v = V.ref b from d1)
  have e3 : Same H1 (upd H1 dx (.own q)) := same_new hdx
  have hq3 : (upd H1 dx (.own q)) q = none := by rw [upd_ne (Ne.symm hne)]; exact hq
  have e4 : Same (upd H1 dx (.own q)) (upd (upd H1 dx (.own q)) q (.ins DT dx [])) := same_new hq3
  exact ⟨q, dx, b, rfl, upd_same, fun H' f tr => ⟨rfl, kk q H' (same_dn e1 hq) (Fr.fresh (e1.trans (e3.trans e4)) (same_dn e1 hq) f) tr⟩⟩
/-- __enter__ -/
def spEnter (K : PySem.W.Frag) (T : List (Addr × Str)) (C D : Addr) : Sp := fun vs H Q _ => ∃ (t b : Addr) (h : Hl) (st : Stt), vs = [.ref t] ∧ TrEx D t b H ∧ BkAt K C b h st H ∧ b ≠ t ∧ ∀ H', Fr T [t] H H' → TrAt K D t b st H' → Q (.ref b) H'
theorem f_tenter {g : Addr} {fd : FuncData} (BB : BookF K mg C) (B : TrialF K mg DT) (F : Fun K "__enter__" "Trial.__enter__" s_Trial___enter g fd) : FnOk P w K mg base CX0 1 g fd ["self"] (spEnter K T C DT) := by
  refine em_mk F sc_Trial___enter (fun vs H Q E h => by obtain ⟨_, _, _, _, rfl, _⟩ := h; rfl) (fun X hX hn vs H Q h => ?_) fun vs H Q E h => h
  have Vr := fun (j : Nat) {i : Nat} {x : Str} e => (tab_loc tb_Trial___enter hn (i := i) (x := x) j e).1
  obtain ⟨t, b, h, st, rfl, ⟨w2, w3, dx, hi⟩, ⟨v1, v2, v3, bk⟩, ne, kk⟩ := h
  have s0 : Slots K (L2.start n_Trial___enter [.ref t]) H (startS n_Trial___enter [.r (.ref t)]) := startS_slots (.cons rfl .nil)
  have ng : nlG (startS n_Trial___enter [.r (.ref t)]) := nlG_r nlG_nil
  let Ψ : V → V → MP := fun x y => (BkVp K C b h st v1 v2 v3).and (MP.at_ t (.ins DT dx (fsT b x y)))
  have kb : ∀ x y H, (Ψ x y).p H → BkV K C b h st v1 v2 v3 H := fun x y H q => q.1
  have kt : ∀ x y H, (Ψ x y).p H → IsI DT t (fsT b x y) H := fun x y H q => ⟨dx, q.2⟩
  refine tb_bfld (T := T) (Φ := Ψ w2 w3) (d := .tuple (st.past.map Ent.dB)) hX B.cls B.np (ev_pastF hX BB (kb w2 w3) (ev_fld (fs := fsT b w2 w3) hX B.cls B.nh (ev_var (Vr 0 rfl) rfl) (kt w2 w3) rfl)) (ev_var (Vr 0 rfl) rfl) (nl_tup (nls_dB _)) ng s0 ⟨bk, hi⟩ hi (by simp [fsT]) fun u2 H2 f2 d2 s2 i2 => ?_
  have bk2 := bk.fr f2 (by simp [ne])
  refine tb_bfld (T := T) (Φ := Ψ u2 w3) (d := .tuple (st.later.map Ent.dB)) hX B.cls B.nl (ev_laterF hX BB (kb u2 w3) (ev_fld (fs := fsT b u2 w3) hX B.cls B.nh (ev_var (Vr 0 rfl) rfl) (kt u2 w3) rfl)) (ev_var (Vr 0 rfl) rfl) (nl_tup (nls_dB _)) ng s2 ⟨bk2, i2⟩ i2 (putF_lt (by simp [fsT])) fun u3 H3 f3 d3 s3 i3 => ?_
  have bk3 := bk2.fr f3 (by simp [ne])
  refine tb_ret (Φ := Ψ u2 u3) (ev_fld (fs := fsT b u2 u3) (v := .ref b) hX B.cls B.nh (ev_var (Vr 0 rfl) rfl) (kt u2 u3) rfl) s3 ⟨bk3, i3⟩ fun v H4 e4 d4 => ?_
  cases (show v = V.ref b from d4)
  exact kk H4 (f2.trans (f3.trans (Fr.same e4))) ⟨u2, u3, ⟨dx, e4 _ _ i3⟩, dp_up e4 (dp_fr f3 (nl_tup (nls_dB _)) d2), dp_up e4 d3⟩
/-- __exit__ -/
def spExit (K : PySem.W.Frag) (T : List (Addr × Str)) (C D : Addr) : Sp := fun vs H Q _ => ∃ (t b : Addr) (h : Hl) (st st' : Stt) (x y z : V), vs = [.ref t, x, y, z] ∧ TrAt K D t b st H ∧ BkAt K C b h st' H ∧ b ≠ t ∧ ∀ H', Fr T [b] H H' → BkAt K C b h st H' → Q .non H'
theorem f_texit {g : Addr} {fd : FuncData} (BB : BookF K mg C) (B : TrialF K mg DT) (F : Fun K "__exit__" "Trial.__exit__" s_Trial___exit g fd) : FnOk P w K mg base CX0 1 g fd ["self", "kind", "told", "trace"] (spExit K T C DT) := by
  refine em_mk F sc_Trial___exit (fun vs H Q E h => by obtain ⟨_, _, _, _, _, _, _, _, rfl, _⟩ := h; rfl) (fun X hX hn vs H Q h => ?_) fun vs H Q E h => h
  have Vr := fun (j : Nat) {i : Nat} {x : Str} e => (tab_loc tb_Trial___exit hn (i := i) (x := x) j e).1
  obtain ⟨t, b, h, st, st', x, y, z, rfl, ⟨w2, w3, ⟨dx, hi⟩, dp2, dp3⟩, ⟨v1, v2, v3, bk⟩, ne, kk⟩ := h
  obtain ⟨db, ib⟩ := bk.i
  have s0 : Slots K (L2.start n_Trial___exit [.ref t, x, y, z]) H (startS n_Trial___exit [.r (.ref t), .r x, .r y, .r z]) := startS_slots (.cons rfl (.cons rfl (.cons rfl (.cons rfl .nil))))
  have ng : nlG (startS n_Trial___exit [.r (.ref t), .r x, .r y, .r z]) := nlG_r (nlG_r (nlG_r (nlG_r nlG_nil)))
  let Ψ : MP := ⟨fun H => H t = some (.ins DT dx (fsT b w2 w3)) ∧ Dp K H w2 (.tuple (st.past.map Ent.dB)) ∧ Dp K H w3 (.tuple (st.later.map Ent.dB)), fun e q => ⟨e _ _ q.1, dp_up e q.2.1, dp_up e q.2.2⟩⟩
  have kt : ∀ H, Ψ.p H → IsI DT t (fsT b w2 w3) H := fun H q => ⟨dx, q.1⟩
  have fr : ∀ {H H' : Hp}, Fr T [b] H H' → Ψ.p H → Ψ.p H' := fun {H H'} f q => ⟨f.at q.1 (by simp [Ne.symm ne]), dp_fr f (nl_tup (nls_dB _)) q.2.1, dp_fr f (nl_tup (nls_dB _)) q.2.2⟩
  have p0 : Ψ.p H := ⟨hi, dp2, dp3⟩
  refine tb_bfld (T := T) (Φ := Ψ) (d := .tuple (st.past.map Ent.dB)) hX BB.cls BB.np (Ev.see (ev_fld (fs := fsT b w2 w3) (v := w2) hX B.cls B.np (ev_var (Vr 0 rfl) rfl) kt rfl) fun H v q z => by cases (show v = w2 from z); exact q.2.1)
    (ev_fld (fs := fsT b w2 w3) (v := .ref b) hX B.cls B.nh (ev_var (Vr 0 rfl) rfl) kt rfl) (nl_tup (nls_dB _)) ng s0 p0 ib (by simp [fsB]) fun u2 H2 f2 d2 s2 i2 => ?_
  refine tb_bfld (T := T) (Φ := Ψ) (d := .tuple (st.later.map Ent.dB)) hX BB.cls BB.nl (Ev.see (ev_fld (fs := fsT b w2 w3) (v := w3) hX B.cls B.nl (ev_var (Vr 0 rfl) rfl) kt rfl) fun H v q z => by cases (show v = w3 from z); exact q.2.2)
    (ev_fld (fs := fsT b w2 w3) (v := .ref b) hX B.cls B.nh (ev_var (Vr 0 rfl) rfl) kt rfl) (nl_tup (nls_dB _)) ng s2 (fr f2 p0) i2 (putF_lt (by simp [fsB])) fun u3 H3 f3 d3 s3 i3 => ?_
  exact tb_nil (kk H3 (f2.trans f3) ⟨v1, u2, u3, ⟨db, i3⟩, dp_fr (f2.trans f3) (nl_hl h) bk.h, dp_fr f3 (nl_tup (nls_dB _)) d2, d3⟩)
end
end BL
end

section
set_option Elab.async false
set_option linter.all false
set_option maxRecDepth 100000
set_option maxHeartbeats 4000000
/-! BMl: a lambda with a parameter or none, called by the def that got it. -/
namespace BL
open PySem PySem.Spec PyProof.Rows L2
/-- the names of a lambda: its parameter (with the slot it takes) or none, captured ones, globals -/
structure LamP (N : List Str) (sc scope : Scope) (pr : Option (Nat × Str)) : Prop where
  kind : scope.kind = .function
  co : scope.isCoroutine = false
  gen : scope.isGenerator = false
  own : ∀ y ∈ scope.names, y.2 ≠ .cell ∧ (y.2 = .local → ∃ j, pr = some (j, y.1))
  par : ∀ j y, pr = some (j, y) → scope.names.lookup y = some .local ∧ N[j]? = some y
  free : ∀ y ∈ scope.names, y.2 = .free → sc.names.lookup y.1 = some .cell ∨ sc.names.lookup y.1 = some .free
def lamPB (N : List Str) (sc scope : Scope) (pr : Option (Nat × Str)) : Bool :=
  decide (scope.kind = .function) && !scope.isCoroutine && !scope.isGenerator && (scope.names.all fun y => !decide (y.2 = .cell) && (!decide (y.2 = .local) || (match pr with | some (_, z) => z == y.1 | none => false)) && (!decide (y.2 = .free) || decide (sc.names.lookup y.1 = some .cell) || decide (sc.names.lookup y.1 = some .free)))
    && (match pr with | some (j, y) => decide (scope.names.lookup y = some .local) && decide (N[j]? = some y) | none => true)
theorem lamP_by {N : List Str} {sc scope : Scope} {pr : Option (Nat × Str)} (h : lamPB N sc scope pr = true) : LamP N sc scope pr := by
  unfold lamPB at h
  simp only [Bool.and_eq_true, Bool.or_eq_true, Bool.not_eq_true', decide_eq_true_eq, decide_eq_false_iff_not, List.all_eq_true] at h
  obtain ⟨⟨⟨⟨h1, h2⟩, h3⟩, h4⟩, h5⟩ := h
  refine ⟨h1, h2, h3, fun y hy => ⟨(h4 y hy).1.1, fun e => ?_⟩, fun j y e => ?_, fun y hy e => ?_⟩
  · rcases (h4 y hy).1.2 with z | z
    · exact absurd e z
    · rcases pr with _ | ⟨j, w⟩
      · cases z
      · exact ⟨j, by rw [eq_of_beq z]⟩
  · rw [e] at h5
    have h5' : (decide (scope.names.lookup y = some .local) && decide (N[j]? = some y)) = true := by simpa using h5
    rw [Bool.and_eq_true] at h5'
    exact ⟨of_decide_eq_true h5'.1, of_decide_eq_true h5'.2⟩
  · rcases (h4 y hy).2 with (z | z) | z
    · exact absurd e z
    · exact .inl z
    · exact .inr z
def sP (σ : L2.St) (pr : Option (Nat × Str)) (v : V) : L2.St := match pr with
  | some (j, _) => σ.set j (some v)
  | none => σ
def bP (pr : Option (Nat × Str)) (u : Value) : List (Str × Value) := match pr with
  | some (_, y) => [(y, u)]
  | none => []
def uP (pr : Option (Nat × Str)) (u : Value) : List Value := match pr with
  | some _ => [u]
  | none => []
section
variable {X : Cx} {pins : List (Addr × Obj)} {σ : L2.St} {H HZ : Hp} {s s1 : Shared} {pr : Option (Nat × Str)} {v0 : V} {u0 : Value}
theorem LamP.has {scope : Scope} (L : LamP X.N X.env.scope scope pr) (ok : X.Ok) (y : Str × NameKind) (hy : y ∈ scope.names) (e : y.2 = .free) : ∃ c, X.env.cells.lookup y.1 = some c := ok.has _ (L.free y hy e)
theorem lam_startP {A : Around} {outer : List Env} {E : XK} {scope : Scope} {f c' : Addr} {h₁ : Heap} {tk : Nat} (I : Inv X pins σ H s) (nd : X.N.Nodup) (L : LamP X.N X.env.scope scope pr) (r0 : RelV v0 u0) (e0 : Env0 X.prog X.w X.K X.mg X.base A outer s1 HZ) (hd : A.handled = none)
    (un : Un (frs X.stack) [] H HZ s.heap s1.heap) (hns : h₁.Ns s1.heap.objs.size fun y => (bP pr u0).reverse.lookup y) (kp : ∀ b o, s1.heap.get? b = some o → h₁.get? b = some o) :
    Inv (LamX.lamCx X A outer s1 HZ E scope f c') [] (sP σ pr v0) HZ { s1 with heap := h₁, toks := tk } := by
  have cm : ∀ {y c}, (cloFrom X.env.cells scope.names []).lookup y = some c → X.env.cells.lookup y = some c := fun {y c} e => by
    rcases cloFrom_mem (PySem.mem_of_lookup e) with hm | ⟨h1, h2⟩
    · cases hm
    · obtain ⟨c1, (hc : X.env.cells.lookup y = some c1)⟩ := L.has I.ok _ h1 rfl
      have e2 : c = c1 := by (rw [h2, hc] <;> rfl)
      exact e2 ▸ hc
  have look : ∀ {y}, scope.names.lookup y = some .free → ∃ c, (cloFrom X.env.cells scope.names []).lookup y = some c := fun {y} hl => mem_lookup (cloFrom_has (cells := X.env.cells) (acc := []) (PySem.mem_of_lookup hl))
  have cellK : ∀ {c : Addr} {v : Option Value}, H c = none → s.heap.IsCell c v → h₁.IsCell c v := fun {c v} n ⟨o, ho, hd⟩ => (un.any ho n (by simp)).elim fun _ q => ⟨_, kp _ _ q, hd⟩
  have noA : ∀ b : Addr, b ∉ (LamX.lamCx X A outer s1 HZ E scope f c').ex := fun b z => nomatch (show b ∈ ([] : List Addr) from z)
  refine ⟨⟨e0.mod, L.kind, rfl, rfl, Nat.le_refl _, fun y z c e1 e2 => I.ok.inj y z c (cm e1) (cm e2), fun y hy => ?_, fun y c (z : false = true) _ => (by cases z), fun _ => hd, Around.frames_deeper e0.frames, .inr ⟨rfl, rfl⟩, fun b z => absurd z (noA b), e0.bs, e0.bsz, fun b _ _ => noA b, fun b z => absurd z (noA b), e0.funs, e0.frf⟩,
    rfl, e0.bare, Un.kept kp, ⟨_, hns, fun i y v e1 e2 e3 => ?_⟩, fun y c e => ?_, e0.hok.fresh (Nat.le_refl _), fun y c e => ?_, fun q hq => (nomatch (show q ∈ ([] : List (Addr × Obj)) ++ [] from hq)), e0.hok.kept kp, ?_⟩
  · rcases (show scope.names.lookup y = some .cell ∨ scope.names.lookup y = some .free from hy) with hy | hy
    · exact absurd rfl (L.own _ (PySem.mem_of_lookup hy)).1
    · exact look hy
  · rcases (show Vis scope y from e3) with k | k | k
    · obtain ⟨j, ej⟩ := (L.own _ (PySem.mem_of_lookup k)).2 rfl
      have ej' : pr = some (j, y) := ej
      obtain ⟨_, hj⟩ := L.par j y ej'
      have hij : i = j := (List.getElem?_inj (List.getElem?_eq_some_iff.mp e1).1 nd).mp (Eq.trans e1 hj.symm)
      subst ej' hij
      have hv : (σ.set i (some v0))[i]? = some (some v) := e2
      have hlen : i < σ.length := by rw [I.len]; exact (List.getElem?_eq_some_iff.mp e1).1
      rw [List.getElem?_set_self hlen] at hv
      cases hv
      exact ⟨u0, r0, .inl ⟨k, by show List.lookup y [(y, u0)] = some u0; simp⟩⟩
    · exact absurd rfl (L.own _ (PySem.mem_of_lookup k)).1
    · have e2' : σ[i]? = some (some v) := by
        rcases pr with _ | ⟨j, z⟩
        · exact e2
        · obtain ⟨hl, hj⟩ := L.par j z rfl
          have nij : j ≠ i := fun q => by
            subst q
            rw [show X.N[j]? = some y from e1] at hj
            cases hj
            rw [k] at hl; cases hl
          have e2q : (σ.set j (some v0))[i]? = some (some v) := e2
          rwa [List.getElem?_set_ne nij] at e2q
      obtain ⟨m, hn, hl⟩ := I.loc
      have hvis : Vis X.env.scope y := (L.free _ (PySem.mem_of_lookup k) rfl).elim (fun k => .inr (.inl k)) (fun k => .inr (.inr k))
      obtain ⟨w', r, q⟩ := hl i y v e1 e2' hvis
      obtain ⟨c2, h2⟩ := look k
      refine ⟨w', r, .inr ⟨.inr k, c2, h2, ?_⟩⟩
      have c1 := cm h2
      rcases q with ⟨(k' : X.env.scope.names.lookup y = some .local), _⟩ | ⟨_, c3, e', z⟩
      · rcases L.free _ (PySem.mem_of_lookup k) rfl with k2 | k2 <;> (rw [show X.env.scope.names.lookup y = _ from k2] at k'; cases k')
      · rw [c1] at e'
        cases e'
        exact cellK (I.freeC y _ c1) z
  · exact (I.cell y c (cm e)).elim fun w' z => ⟨w', cellK (I.freeC y c (cm e)) z⟩
  · obtain ⟨v, o, ho, _⟩ := I.cell y c (cm e)
    exact un.free c o ho (I.freeC y c (cm e)) (by simp)
  · show (sP σ pr v0).length = X.N.length
    rw [← I.len]
    rcases pr with _ | ⟨j, z⟩
    · rfl
    · exact List.length_set
/-- the body of a lambda runs; what of its exceptions is wished of the frame that called it -/
theorem lam_runG {CXg : CXT} {Eg : XK} {Ng : List Str} {qg : Str} {sg : Scope} {g f c' : Addr} {cdg pm ctv : Value} {params : Arguments} {body : Expr} {scope : Scope} {k : Nat} {pn : List (Addr × Obj)} {xe : Value → Shared → Prop} {E : XK} {tb : TE} {σZ : L2.St} {pz : List (Addr × Obj)} {Q : VK}
    (I : Inv X pins σ H s) (nd : X.N.Nodup) (L : LamP X.N X.env.scope scope pr) (hgd : X.A.guards = some []) (hf : s.heap.get? f = some (PySem.W.kla_obj "<lambda>" (X.env.qual ++ "<lambda>") params body scope (cloFrom X.env.cells scope.names []) pm c' ctv)) (hfn : H f = none) (hfr : f ∉ frs X.stack)
    (hbind : ∀ u, bindArgs (PySem.W.kla_fn "<lambda>" (X.env.qual ++ "<lambda>") params body scope (cloFrom X.env.cells scope.names []) pm (.ref c') ctv) ⟨uP pr u, []⟩ = pure (bP pr u))
    (hx : ∀ e s', L2.CX X.prog X.w (envOfC qg sg s.heap.objs.size g cdg :: X.stack) HZ s1 E e s' → xe e s') (hr : Room (k + 1) (X.A.deeper (envOfC qg sg s.heap.objs.size g cdg)))
    (hbody : ∀ (A : Around) (outer : List Env) (s : Shared) (H : Hp), A.guards = some [] → Room k (A.deeper (LamX.lamEnv X scope s.heap.objs.size f c')) → PE (LamX.lamCx X A outer s H E scope f c') body tb)
    (IZ : Inv ((cxOf CXg X.prog X.w X.K X.mg X.base Ng qg sg g cdg X.A X.stack s H Eg).tr pn xe) pz σZ HZ s1) (hc : HZ c' = some (LamX.CodeO c' (X.env.qual ++ "<lambda>"))) (r0 : RelV v0 u0) (ht : tb (sP σ pr v0) HZ Q) :
    wpAny (model X.prog X.w) (X.A.deeper (envOfC qg sg s.heap.objs.size g cdg)) (call (.ref f) (uP pr u0)) (EP ((cxOf CXg X.prog X.w X.K X.mg X.base Ng qg sg g cdg X.A X.stack s H Eg).tr pn xe) pz σZ Q) xe s1 := by
  have of1 := IZ.base.keep f _ hf hfn hfr (fun z => nomatch (show f ∈ ([] : List Addr) from z))
  have un : Un (frs X.stack) [] H HZ s.heap s1.heap := IZ.base
  obtain ⟨⟨oc, vs, t, hoc, hdc, hvc⟩, _, _⟩ := IZ.hok c' _ hc
  have rc : codeAny (model X.prog X.w) (X.A.deeper (envOfC qg sg s.heap.objs.size g cdg)) (.call (.ref f) ⟨uP pr u0, []⟩) (CR (L2.CX X.prog X.w) (envOfC qg sg s.heap.objs.size g cdg :: X.stack) X.prog X.w HZ s1 Q E) s1 := by
    refine PySem.W.kla_callFunE hr.depth of1 rfl L.co L.gen rfl ⟨c', oc, vs, t, rfl, hoc, hdc, hvc⟩ ?_
    rw [hbind u0]
    refine wpAny_pure (wpAny_newFunctionEnv (fun y hy => (L.own y hy).1) (fun y hy => ?_) (fun h₁ hns hsb => ⟨IZ.nolimit.fresh _ hsb, ?_⟩) L.kind)
    · rcases pr with _ | ⟨j, z⟩
      · exact (nomatch (show y ∈ ([] : List (Str × Value)) from hy))
      · have e : y = (z, u0) := List.mem_singleton.mp hy
        rw [e]; exact (L.par j z rfl).1
    · show codeAny _ _ (.expr body (LamX.lamEnv X scope s1.heap.objs.size f c')) _ _
      have kp : ∀ b o, s1.heap.get? b = some o → h₁.get? b = some o := fun b o e => hsb.extBut b o (Nat.ne_of_lt (Heap.lt_size e)) (Heap.get?_push_of_some _ e)
      have J : Inv (LamX.lamCx X (X.A.deeper (envOfC qg sg s.heap.objs.size g cdg)) (envOfC qg sg s.heap.objs.size g cdg :: X.stack) s1 HZ E scope f c') [] (sP σ pr v0) HZ { s1 with heap := h₁, toks := s1.toks + (bP pr u0).length } := lam_startP I nd L r0 IZ.env0 hr.hd un hns kp
      refine PySem.W.kla_codeExpr (wpAny_mono ((hbody (X.A.deeper (envOfC qg sg s.heap.objs.size g cdg)) _ s1 HZ hgd (hr.deeper _)).run [] _ _ HZ Q J ht) (fun v s' ⟨w', H', J', rv, q⟩ => ⟨w', H', J'.os, J'.bare, J'.base, J'.hok, rv, q⟩) fun e s' hq => hq)
  refine wpAny_call (codeAny_mono rc fun r s' hq => ?_)
  cases r with
  | error e => exact hx e s' hq
  | ok fl =>
    cases fl with
    | ret u => exact IZ.after hq
    | next => exact False.elim hq
    | brk => exact False.elim hq
    | cont => exact False.elim hq
/-- the body of a lambda runs -/
theorem lam_runP {CXg : CXT} {Eg : XK} {Ng : List Str} {qg : Str} {sg : Scope} {g f c' : Addr} {cdg pm ctv : Value} {params : Arguments} {body : Expr} {scope : Scope} {k : Nat} {pn : List (Addr × Obj)} {xe : Value → Shared → Prop} {E : XK} {tb : TE} {σZ : L2.St} {pz : List (Addr × Obj)} {Q : VK}
    (I : Inv X pins σ H s) (nd : X.N.Nodup) (L : LamP X.N X.env.scope scope pr) (hgd : X.A.guards = some []) (hf : s.heap.get? f = some (PySem.W.kla_obj "<lambda>" (X.env.qual ++ "<lambda>") params body scope (cloFrom X.env.cells scope.names []) pm c' ctv)) (hfn : H f = none) (hfr : f ∉ frs X.stack)
    (hbind : ∀ u, bindArgs (PySem.W.kla_fn "<lambda>" (X.env.qual ++ "<lambda>") params body scope (cloFrom X.env.cells scope.names []) pm (.ref c') ctv) ⟨uP pr u, []⟩ = pure (bP pr u))
    (hx : Passes (L2.CX X.prog X.w) ((cxOf CXg X.prog X.w X.K X.mg X.base Ng qg sg g cdg X.A X.stack s H Eg).tr pn xe) E) (hr : Room (k + 1) (X.A.deeper (envOfC qg sg s.heap.objs.size g cdg)))
    (hbody : ∀ (A : Around) (outer : List Env) (s : Shared) (H : Hp), A.guards = some [] → Room k (A.deeper (LamX.lamEnv X scope s.heap.objs.size f c')) → PE (LamX.lamCx X A outer s H E scope f c') body tb)
    (IZ : Inv ((cxOf CXg X.prog X.w X.K X.mg X.base Ng qg sg g cdg X.A X.stack s H Eg).tr pn xe) pz σZ HZ s1) (hc : HZ c' = some (LamX.CodeO c' (X.env.qual ++ "<lambda>"))) (r0 : RelV v0 u0) (ht : tb (sP σ pr v0) HZ Q) :
    wpAny (model X.prog X.w) (X.A.deeper (envOfC qg sg s.heap.objs.size g cdg)) (call (.ref f) (uP pr u0)) (EP ((cxOf CXg X.prog X.w X.K X.mg X.base Ng qg sg g cdg X.A X.stack s H Eg).tr pn xe) pz σZ Q) xe s1 :=
  lam_runG I nd L hgd hf hfn hfr hbind (fun e s' hq => hx pz σZ HZ s1 e s' IZ hq) hr hbody IZ hc r0 ht
end
end BL
end

section
set_option Elab.async false
set_option linter.all false
set_option maxRecDepth 100000
set_option maxHeartbeats 4000000
/-! BMm: with, whose block raises nothing. -/
namespace BL
open PySem PySem.Spec PyProof.Rows L2
section
variable {P : Program} {w : World} {K : PySem.W.Frag} {mg : Str → Option Value} {base : Heap} {k : Nat} {T : List (Addr × Str)}
variable {X : Cx} {ctx : Expr} {pos py : Pos} {σ : L2.St} {H : Hp} {bd : List Stmt} {C : Addr}
/-- a method, called with an instance -/
theorem run_inst {fa : Addr} {fd : FuncData} {ps : List Str} {sp : Sp} {j : Nat} {pins : List (Addr × Obj)} {s : Shared} {us : List Value} {vs : List V} {Q : VK} (F : FnOk X.prog X.w X.K X.mg X.base CX0 j fa fd ps sp) (hr : Room j X.A) (bd : Binds X.K fd ps []) (I : Inv X pins σ H s) (r : Vals vs us) (h : sp vs H Q E0) :
    wpAny (model X.prog X.w) X.A (call (.ref fa) us) (EP X pins σ Q) X.xe s := by
  have r' : Vals vs us := r
  refine run_fn (ds := []) (dvs := []) F hr bd .nil pass0 I r' (by rw [List.append_nil]; exact h)
/-- with e as y: .. -/
def tWith (C : Addr) (i : Nat) (spE spX : Sp) (te : TE) (tb : TS) : TS := fun D σ H => te σ H fun v H1 => ∃ x fs, v = .ref x ∧ IsI C x fs H1 ∧
  spE [.ref x] H1 (fun u H2 => tb { nx := fun σ' H' => spX [.ref x, .non, .non, .non] H' (fun _ H3 => D.nx σ' H3) E0, rt := fun r H' => spX [.ref x, .non, .non, .non] H' (fun _ H3 => D.rt r H3) E0 } (σ.set i (some u)) H2) E0
theorem ps_with {fe fx : Addr} {fdE fdX : FuncData} {psE psX : List Str} {spE spX : Sp} {j i : Nat} {y : Str} {te : TE} {tb : TS} (hN : X.N.Nodup) (hi : X.N[i]? = some y) (hl : Loc X.env.scope y) (FE : FnOk X.prog X.w X.K X.mg X.base CX0 j fe fdE psE spE) (FX : FnOk X.prog X.w X.K X.mg X.base CX0 j fx fdX psX spX) (hr : Room j X.A) (bE : Binds X.K fdE psE []) (bX : Binds X.K fdX psX [])
    (he : PySem.W.findIn X.K (.ref C) "__enter__" = some (some (.ref fe))) (hfe : PySem.W.isFn X.K (.ref fe) = true) (hx : PySem.W.findIn X.K (.ref C) "__exit__" = some (some (.ref fx))) (hfx : PySem.W.isFn X.K (.ref fx) = true)
    (hc : PE X ctx te) (hb : PSs X.nox bd tb) (hf : X.fn y = true ∨ X.env.scope.names.lookup y = some .local) : PS X (.With [⟨ctx, some (.Name y py)⟩] bd pos) (tWith C i spE spX te tb) := by
  refine ⟨fun pins s σ H D I h => ?_⟩
  refine PySem.W.kw_execN (thn (hc.run pins s σ H _ I h) fun v s1 ⟨z, H1, I1, r1, x, fs, ez, ⟨dx, hd⟩, q1⟩ => ?_)
  subst ez
  cases (show v = Value.ref x from r1)
  obtain ⟨mA, O, _⟩ := ins_get I1.hok hd
  obtain ⟨od, J, _⟩ := O.look
  obtain ⟨m, hF⟩ := I1.fr
  refine PySem.W.kw_inN hF I1.ok.mod.kin J he hfe hx hfx ?_
  refine thn (run_inst (us := [.ref x]) (vs := [.ref x]) FE hr bE I1 (.cons rfl .nil) q1) fun u s2 ⟨u', H2, I2, r2, q2⟩ => ?_
  refine store_ok I2 hN hi hl r2 (fun s3 I3 => ?_) hf
  refine wpAny_mono (hb.run pins s3 _ H2 _ (I3.wish _) q2) (fun f s4 q => ?_) fun _ _ z => z
  have q' := SP.unwish q
  have ex : ∀ {σ4 : L2.St} {H4 : Hp} {Q : Hp → Prop} {G : Value → Shared → Prop}, Inv X pins σ4 H4 s4 → spX [.ref x, .non, .non, .non] H4 (fun _ H5 => Q H5) E0 → (∀ H5 s5 u, Inv X pins σ4 H5 s5 → Q H5 → G u s5) →
      wpAny (model X.prog X.w) X.A (call (.ref fx) [.ref x, .none, .none, .none]) G X.xe s4 := fun {σ4 H4 Q G} I4 q4 kk =>
    thn (run_inst (us := [.ref x, .none, .none, .none]) (vs := [.ref x, .non, .non, .non]) FX hr bX I4 (.cons rfl (.cons rfl (.cons rfl (.cons rfl .nil)))) q4) fun u5 s5 ⟨_, H5, I5, _, q5⟩ => kk H5 s5 u5 I5 q5
  cases f with
  | next =>
    obtain ⟨σ4, H4, I4, q4⟩ := q'
    exact ex I4 q4 fun H5 s5 u I5 q5 => ⟨σ4, H5, I5, q5⟩
  | ret r =>
    obtain ⟨v4, σ4, H4, I4, r4, q4⟩ := q'
    exact ex I4 q4 fun H5 s5 u I5 q5 => ⟨v4, σ4, H5, I5, r4, q5⟩
  | brk =>
    obtain ⟨_, _, _, z⟩ := q'
    exact z.elim
  | cont =>
    obtain ⟨_, _, _, z⟩ := q'
    exact z.elim
end
end BL
end

section
set_option Elab.async false
set_option linter.all false
set_option maxRecDepth 100000
set_option maxHeartbeats 4000000
/-! BMn: the body of a lambda, as read; under(e, lambda y: ..), whose block raises nothing. -/
namespace BL
open PySem PySem.Spec PyProof.Rows L2
section
variable {P : Program} {w : World} {K : PySem.W.Frag} {mg : Str → Option Value} {base : Heap} {k : Nat} {T : List (Addr × Str)}
variable {X Y : Cx} {Γ : Gm} {Φ : MP} {e : Expr} {σ : L2.St} {H : Hp} {C DT : Addr} {pr : Option (Nat × Str)}
/-- the context of a lambda's body -/
structure LamB (P : Program) (w : World) (K : PySem.W.Frag) (mg : Str → Option Value) (base : Heap) (k : Nat) (N : List Str) (scope : Scope) (Y : Cx) : Prop where
  i : In P w K mg base k Y
  g : Y.A.guards = some []
  N : Y.N = N
  sc : Y.env.scope = scope
def lvB (N : List Str) (sc : Scope) (vs : List (Nat × Str)) (gs : List Str) : Bool :=
  (vs.all fun p => decide (N[p.1]? = some p.2) && (visB sc p.2 && (!(p.2 == ("__debug__" : Str)) && !(p.2 == ("__classdict__" : Str))))) && gs.all fun x => decide (sc.names.lookup x = some .globalImplicit) && (!(x == ("__debug__" : Str)) && decide (x ≠ "__name__"))
theorem lv_var {N : List Str} {sc : Scope} {vs : List (Nat × Str)} {gs : List Str} (T : lvB N sc vs gs = true) (h : LamB P w K mg base k N sc Y) (j : Nat) {i : Nat} {x : Str} (e : vs[j]? = some (i, x)) : VarAt Y i x := by
  have h1 := List.all_eq_true.mp (Bool.and_eq_true_iff.mp T).1 _ (List.mem_of_getElem? e)
  obtain ⟨q1, h2⟩ := Bool.and_eq_true_iff.mp h1
  obtain ⟨q2, h3⟩ := Bool.and_eq_true_iff.mp h2
  obtain ⟨q3, q4⟩ := Bool.and_eq_true_iff.mp h3
  have l : Vis sc x := by
    unfold visB at q2
    split at q2
    · rename_i z; exact .inl z
    · rename_i z; exact .inr (.inl z)
    · rename_i z; exact .inr (.inr z)
    · cases q2
  have e3 : (x == ("__debug__" : Str)) = false := by simpa using q3
  have e4 : (x == ("__classdict__" : Str)) = false := by simpa using q4
  exact ⟨by rw [h.N]; exact of_decide_eq_true q1, by rw [h.sc]; exact l, e3, e4⟩
theorem lv_glo {N : List Str} {sc : Scope} {vs : List (Nat × Str)} {gs : List Str} (T : lvB N sc vs gs = true) (h : LamB P w K mg base k N sc Y) (j : Nat) {x : Str} (e : gs[j]? = some x) : GlAt Y x := by
  have h1 := List.all_eq_true.mp (Bool.and_eq_true_iff.mp T).2 _ (List.mem_of_getElem? e)
  obtain ⟨q1, h2⟩ := Bool.and_eq_true_iff.mp h1
  obtain ⟨q2, q3⟩ := Bool.and_eq_true_iff.mp h2
  refine ⟨?_, by simpa using q2, of_decide_eq_true q3⟩
  show Y.env.scope.names.lookup x = some .globalImplicit
  rw [h.sc]
  exact of_decide_eq_true q1
def teL (P : Program) (w : World) (K : PySem.W.Frag) (mg : Str → Option Value) (base : Heap) (k : Nat) (N : List Str) (scope : Scope) (body : Expr) : TE := fun σ H Q => ∀ Y, LamB P w K mg base k N scope Y → tE Y body σ H Q
theorem teL_pe {scope : Scope} {body : Expr} {E : XK} {f c' : Addr} (hX : In P w K mg base 0 X) (A : Around) (outer : List Env) (s : Shared) (H : Hp) (g : A.guards = some []) (r : Room k (A.deeper (LamX.lamEnv X scope s.heap.objs.size f c'))) : PE (LamX.lamCx X A outer s H E scope f c') body (teL P w K mg base k X.N scope body) :=
  ⟨fun pins s' σ' H' Q I h => (h (LamX.lamCx X A outer s H E scope f c') ⟨⟨hX.prog, hX.w, hX.K, hX.mg, hX.base, rfl, r, hX.nd⟩, g, rfl, rfl⟩).run pins s' I⟩
/-- what under makes of a trial and of what the block does (tl) -/
def UndN (K : PySem.W.Frag) (T : List (Addr × Str)) (C D : Addr) (tl : V → Hp → VK → Prop) (v1 : V) (H : Hp) (Q : VK) : Prop := ∃ (t b : Addr) (h : Hl) (st : Stt), v1 = .ref t ∧ TrEx D t b H ∧ BkAt K C b h st H ∧ b ≠ t ∧
  ∀ H1, Fr T [t] H H1 → TrAt K D t b st H1 → BkAt K C b h st H1 → tl (.ref b) H1 fun v H2 => ∃ st', TrAt K D t b st H2 ∧ BkAt K C b h st' H2 ∧ ∀ H3, Fr T [b] H2 H3 → BkAt K C b h st H3 → Q v H3
/-- what the maker of the lambda must be -/
structure LamM (T : List (Addr × Str)) (X : Cx) (c Pt : Addr) : Prop where
  tb : LamX.TabB X.base X.mg c Pt
  code : X.env.code = .ref c
  mem : (Pt, X.env.qual ++ "<lambda>") ∈ T
  uni : ∀ p ∈ T, p.1 = Pt → p.2 = X.env.qual ++ "<lambda>"
theorem te_under {e1 : Expr} {params : Arguments} {body : Expr} {scope : Scope} {p lpos pos : Pos} {c Pt : Addr} {j : Nat} {y : Str} {Q : VK} {m : Nat} (hX : In P w K mg base k X) (hgd : X.A.guards = some []) (BB : BookF K mg C) (BT : TrialF K mg DT) (F : FnF K mg "under" s_under ["manager", "deed"]) (g : GlAt X "under") (M : LamM T X c Pt) (hk : m + 4 ≤ k)
    (L : LamP X.N X.env.scope scope (some (j, y))) (hdef : defaultsOf params X.env = ([], []))
    (hbind : ∀ (q : Str) (cl : List (Str × Addr)) (pm cv ctv u : Value), bindArgs (PySem.W.kla_fn "<lambda>" q params body scope cl pm cv ctv) ⟨[u], []⟩ = pure [(y, u)])
    (h : tE X e1 σ H fun v1 H1 => LamX.Tabs T H1 ∧ ∀ H2, LamX.ExtN H1 H2 → LamX.Tabs T H2 → UndN K T C DT (fun v H' Q' => teL P w K mg base m X.N scope body (σ.set j (some v)) H' Q') v1 H2 Q)
    (he : starEach [e1, .Lambda params body scope lpos] X.env = (false, eval e1 X.env) :: starEach [.Lambda params body scope lpos] X.env := by rfl) :
    tE X (.Call (.Name "under" p) [e1, .Lambda params body scope lpos] [] pos) σ H Q := by
  obtain ⟨gu, fd, Fu, hb, hm⟩ := F
  have hb' : L2.Binds X.K fd ["manager", "deed"] [] := by rw [hX.K]; exact hb
  obtain ⟨oc, od, kV, doc, pm, an, cdv, ct, osl, rfl, lk, hcd⟩ := Fu.ex
  refine ⟨fun pins s I => ?_⟩
  refine wpAny_Call_Name_kw (ld_glob I g.1 (by rw [hX.mg]; exact hm) ?_ g.2.1)
  refine PySem.W.callWith_K (h₀ := X.base) I.ok.mod.kin (by rw [hX.K]; exact Fu.kp) ?_ he (by rfl)
  rw [he]
  refine Calls.spliced_cons (thn (h.run pins s I) fun u1 s1 ⟨v1, H1, I1, r1, hT, hu⟩ => ?_)
  refine Calls.spliced_cons (LamX.lam_make2 I1 M.tb M.code M.mem M.uni hT hdef (L.has I1.ok) fun f c' pm' ctv H2 s2 I2 eN T2 hf hfn hfr hco => ?_)
  refine Calls.spliced_nil ⟨I2.kIn, ?_⟩
  have hr : Room (m + 4) X.A := hX.room.mono hk
  have rc : codeAny (model X.prog X.w) X.A (.call (.ref gu) ⟨[u1, .ref f], []⟩) (CR CX0 X.stack X.prog X.w H2 s2 Q E0) s2 := by
    refine LamX.run_ofS (k := m + 3) (N := n_under) (ps := ["manager", "deed"]) (us := [u1, .ref f]) (vs := [v1, .ref f]) (by rw [hX.K]; exact lk) (by rw [hX.K]; exact hcd) sc_under hr I2.env0 (by simpa using hb' s2 [u1, .ref f] I2.kIn rfl) (.cons r1 (.cons rfl .nil)) rfl fun hr' => ?_
    refine ⟨_, (pb_sem (X := (cxOf CX0 X.prog X.w X.K X.mg X.base n_under "under" (defScope s_under) gu cdv X.A X.stack s2 H2 E0).tr [] fun _ _ => False)).nox, ?_⟩
    have hZ : In P w K mg base (m + 3) ((cxOf CX0 X.prog X.w X.K X.mg X.base n_under "under" (defScope s_under) gu cdv X.A X.stack s2 H2 E0).tr [] fun _ _ => False) := ⟨hX.prog, hX.w, hX.K, hX.mg, hX.base, rfl, hr', sc_under.nd⟩
    have hn : Nm n_under (defScope s_under) ((cxOf CX0 X.prog X.w X.K X.mg X.base n_under "under" (defScope s_under) gu cdv X.A X.stack s2 H2 E0).tr [] fun _ _ => False) := ⟨rfl, rfl, fun _ => rfl, PassesOwn.never⟩
    have act : ∀ (p1 p2 p3 : Pos), PE ((cxOf CX0 X.prog X.w X.K X.mg X.base n_under "under" (defScope s_under) gu cdv X.A X.stack s2 H2 E0).tr [] fun _ _ => False) (.Call (.Name "deed" p1) [.Name "given" p2] [] p3)
        (fun σZ HZ Q => σZ[1]? = some (some (.ref f)) ∧ HZ c' = some (LamX.CodeO c' (X.env.qual ++ "<lambda>")) ∧ ∃ v, σZ[2]? = some (some v) ∧ teL P w K mg base m X.N scope body (σ.set j (some v)) HZ Q) := fun p1 p2 p3 => by
      refine ⟨fun pz sZ σZ HZ Q IZ ⟨hs, hc, v, hv, ht⟩ => ?_⟩
      refine wpAny_Call_Name_kw (thn ((pe_var (pos := p1) (i := 1) rfl (.inl rfl) (by decide) (by decide)).run pz sZ σZ HZ (fun v H1 => v = .ref f ∧ H1 = HZ) IZ ⟨.ref f, hs, rfl, rfl⟩) fun u sA ⟨v', HA, IA, rA, qA⟩ => ?_)
      obtain ⟨rfl, rfl⟩ := qA
      cases (show u = Value.ref f from rA)
      have atF : ∀ {s' : Shared} {H' : Hp} {σ' : L2.St}, Inv ((cxOf CX0 X.prog X.w X.K X.mg X.base n_under "under" (defScope s_under) gu cdv X.A X.stack s2 H2 E0).tr [] fun _ _ => False) pz σ' H' s' → PySem.W.FnAt f s'.heap := fun {s' H' σ'} J => ⟨_, _, _, _, J.base.keep f _ hf hfn hfr (fun z => nomatch (show f ∈ ([] : List Addr) from z))⟩
      refine PySem.W.callWith_F (first := []) (atF IA) (thn ((pa_cons (pe_var (pos := p2) (i := 2) rfl (.inl rfl) (by decide) (by decide)) pa_nil).run p3 pz sA σZ _ (fun vs H1 => vs = [v] ∧ H1 = _) IA ⟨v, hv, rfl, rfl⟩) fun us sB ⟨vs, HB, IB, rB, qB⟩ => ⟨atF IB, ?_⟩)
      obtain ⟨rfl, rfl⟩ := qB
      cases rB with
      | @cons _ u0 _ ur r0 rn =>
        cases rn
        exact lam_runP (pr := some (j, y)) (k := m) (E := E0) (tb := teL P w K mg base m X.N scope body) I2 hX.nd L hgd hf hfn hfr (fun u => hbind _ _ _ _ _ u) passL (hr'.mono (by omega)) (fun A outer s H g r => teL_pe (hX.mono (Nat.zero_le _)) A outer s H g r) IB hc r0 ht
    obtain ⟨t, b, h, st, rfl, tr, bk, ne, kk⟩ := hu H2 eN T2
    obtain ⟨fe, fdE, e1', e2', e3', e4'⟩ := BT.enter
    obtain ⟨fx, fdX, x1', x2', x3', x4'⟩ := BT.exit
    have Vr := fun (j : Nat) {i : Nat} {x : Str} e => (tab_loc tb_under hn (i := i) (x := x) j e).1
    have s0 : Slots K (L2.start n_under [.ref t, .ref f]) H2 (startS n_under [.r (.ref t), .r (.ref f)]) := startS_slots (.cons rfl (.cons rfl .nil))
    refine tb_cons (PSto (ps_with (C := DT) (i := 2) (spE := spEnter K T C DT) (spX := spExit K T C DT) hZ.nd rfl (.inl rfl) (show FnOk X.prog X.w X.K X.mg X.base CX0 1 fe fdE _ _ by rw [hX.prog, hX.w, hX.K, hX.mg, hX.base]; exact f_tenter BB BT e3') (show FnOk X.prog X.w X.K X.mg X.base CX0 1 fx fdX _ _ by rw [hX.prog, hX.w, hX.K, hX.mg, hX.base]; exact f_texit BB BT x3') (hr'.mono (by omega)) (by rw [hZ.K]; exact e4') (by rw [hZ.K]; exact x4')
      (by rw [hZ.K]; exact e1') (by rw [hZ.K]; exact e2') (by rw [hZ.K]; exact x1') (by rw [hZ.K]; exact x2') pe_sem (pss_one (ps_set (i := 3) hZ.nd rfl (.inl rfl) (act _ _ _) rfl (.inl rfl))) (.inl rfl)) ?_)
    refine Ev.goT (ev_var (Vr 0 rfl) rfl) s0 fun v H3 e3 d3 => ?_
    cases (show v = V.ref t from d3)
    obtain ⟨w2, w3, it⟩ := tr.fr (Fr.same (T := T) (S := []) e3) (by simp)
    refine ⟨t, fsT b w2 w3, rfl, it, t, b, h, st, rfl, ⟨w2, w3, it⟩, bk.up e3, ne, fun H4 f4 tr4 => ?_⟩
    have ff : Fr T [t] H2 H4 := (Fr.same e3).trans f4
    have ntc : c' ∉ [t] := fun z => by
      rw [List.mem_singleton] at z
      obtain ⟨_, _, dx, i⟩ := tr
      rw [z, i] at hco
      cases hco
    refine ⟨rfl, ff.at hco ntc (LamX.codeO_ne), .ref b, rfl, fun Y hY => tE_mono (kk H4 ff tr4 (bk.fr ff (by simp [ne])) Y hY) fun v H5 ⟨st', tr5, bk5, k5⟩ => ?_⟩
    refine ⟨t, b, h, st, st', .non, .non, .non, rfl, tr5, bk5, ne, fun H6 f6 bk6 => ?_⟩
    have s7 : Slots K [some (V.ref t), some (V.ref f), some (V.ref b), some v] H6 [some (.r (.ref t)), some (.r (.ref f)), some (.r (.ref b)), some (.r v)] := startS_slots (N := n_under) (vs := [V.ref t, V.ref f, V.ref b, v]) (ss := [.r (.ref t), .r (.ref f), .r (.ref b), .r v]) (.cons rfl (.cons rfl (.cons rfl (.cons rfl .nil))))
    exact tb_ret (K := K) (Φ := MP.top) (ev_var (Vr 3 rfl) rfl) s7 trivial fun u H7 e7 d7 => by
        cases (show u = v from d7)
        exact k5 H7 (f6.trans (Fr.same e7)) (bk6.up e7)
  refine wpAny_call (codeAny_mono rc fun r s' hq => ?_)
  cases r with
  | error e => exact False.elim hq
  | ok fl =>
    cases fl with
    | ret u => exact I2.after hq
    | next => exact False.elim hq
    | brk => exact False.elim hq
    | cont => exact False.elim hq
end
end BL
end

section
set_option Elab.async false
set_option linter.all false
set_option maxRecDepth 100000
set_option maxHeartbeats 4000000
/-! BMo: _law_said(lambda: ..), where nothing is raised. -/
namespace BL
open PySem PySem.Spec PyProof.Rows L2
section
variable {P : Program} {w : World} {K : PySem.W.Frag} {mg : Str → Option Value} {base : Heap} {k : Nat} {T : List (Addr × Str)}
variable {X Y : Cx} {Γ : Gm} {Φ : MP} {e : Expr} {σ : L2.St} {H : Hp} {C DT : Addr}
theorem te_said {params : Arguments} {body : Expr} {scope : Scope} {p lpos pos : Pos} {c Pt : Addr} {Q : VK} {m : Nat} (hX : In P w K mg base k X) (hgd : X.A.guards = some []) (F : FnF K mg "_law_said" s_l_said ["_law_call"]) (g : GlAt X "_law_said") (M : LamM T X c Pt) (hk : m + 4 ≤ k)
    (L : LamP X.N X.env.scope scope none) (hdef : defaultsOf params X.env = ([], []))
    (hbind : ∀ (q : Str) (cl : List (Str × Addr)) (pm cv ctv : Value), bindArgs (PySem.W.kla_fn "<lambda>" q params body scope cl pm cv ctv) ⟨[], []⟩ = pure [])
    (hT : LamX.Tabs T H) (h : ∀ H2, LamX.ExtN H H2 → LamX.Tabs T H2 → teL P w K mg base m X.N scope body σ H2 fun v H3 => ∀ q H4, H3 q = none → Same (upd H3 q (.lst [v])) H4 → Q (.ref q) H4)
    (he : starEach [.Lambda params body scope lpos] X.env = (false, eval (.Lambda params body scope lpos) X.env) :: starEach [] X.env := by rfl) :
    tE X (.Call (.Name "_law_said" p) [.Lambda params body scope lpos] [] pos) σ H Q := by
  obtain ⟨gu, fd, Fu, hb, hm⟩ := F
  have hb' : L2.Binds X.K fd ["_law_call"] [] := by rw [hX.K]; exact hb
  obtain ⟨oc, od, kV, doc, pm, an, cdv, ct, osl, rfl, lk, hcd⟩ := Fu.ex
  refine ⟨fun pins s I => ?_⟩
  refine wpAny_Call_Name_kw (ld_glob I g.1 (by rw [hX.mg]; exact hm) ?_ g.2.1)
  refine PySem.W.callWith_K (h₀ := X.base) I.ok.mod.kin (by rw [hX.K]; exact Fu.kp) ?_ he (by rfl)
  rw [he]
  refine Calls.spliced_cons (LamX.lam_make2 I M.tb M.code M.mem M.uni hT hdef (L.has I.ok) fun f c' pm' ctv H2 s2 I2 eN T2 hf hfn hfr hco => ?_)
  refine Calls.spliced_nil ⟨I2.kIn, ?_⟩
  have hr : Room (m + 4) X.A := hX.room.mono hk
  have rc : codeAny (model X.prog X.w) X.A (.call (.ref gu) ⟨[.ref f], []⟩) (CR CX0 X.stack X.prog X.w H2 s2 Q E0) s2 := by
    refine LamX.run_ofS (k := m + 3) (N := n_l_said) (ps := ["_law_call"]) (us := [.ref f]) (vs := [.ref f]) (by rw [hX.K]; exact lk) (by rw [hX.K]; exact hcd) sc_l_said hr I2.env0 (by simpa using hb' s2 [.ref f] I2.kIn rfl) (.cons rfl .nil) rfl fun hr' => ?_
    refine ⟨_, (pb_sem (X := (cxOf CX0 X.prog X.w X.K X.mg X.base n_l_said "_law_said" (defScope s_l_said) gu cdv X.A X.stack s2 H2 E0).tr [] fun _ _ => False)).nox, ?_⟩
    have hZ : In P w K mg base (m + 3) ((cxOf CX0 X.prog X.w X.K X.mg X.base n_l_said "_law_said" (defScope s_l_said) gu cdv X.A X.stack s2 H2 E0).tr [] fun _ _ => False) := ⟨hX.prog, hX.w, hX.K, hX.mg, hX.base, rfl, hr', sc_l_said.nd⟩
    have hn : Nm n_l_said (defScope s_l_said) ((cxOf CX0 X.prog X.w X.K X.mg X.base n_l_said "_law_said" (defScope s_l_said) gu cdv X.A X.stack s2 H2 E0).tr [] fun _ _ => False) := ⟨rfl, rfl, fun _ => rfl, PassesOwn.never⟩
    have act : ∀ (p1 p3 : Pos), PE ((cxOf CX0 X.prog X.w X.K X.mg X.base n_l_said "_law_said" (defScope s_l_said) gu cdv X.A X.stack s2 H2 E0).tr [] fun _ _ => False) (.Call (.Name "_law_call" p1) [] [] p3)
        (fun σZ HZ Q => σZ[0]? = some (some (.ref f)) ∧ HZ c' = some (LamX.CodeO c' (X.env.qual ++ "<lambda>")) ∧ teL P w K mg base m X.N scope body σ HZ Q) := fun p1 p3 => by
      refine ⟨fun pz sZ σZ HZ Q IZ ⟨hs, hc, ht⟩ => ?_⟩
      refine wpAny_Call_Name_kw (thn ((pe_var (pos := p1) (i := 0) rfl (.inl rfl) (by decide) (by decide)).run pz sZ σZ HZ (fun v H1 => v = .ref f ∧ H1 = HZ) IZ ⟨.ref f, hs, rfl, rfl⟩) fun u sA ⟨v', HA, IA, rA, qA⟩ => ?_)
      obtain ⟨rfl, rfl⟩ := qA
      cases (show u = Value.ref f from rA)
      have atF : PySem.W.FnAt f sA.heap := ⟨_, _, _, _, IA.base.keep f _ hf hfn hfr (fun z => nomatch (show f ∈ ([] : List Addr) from z))⟩
      refine PySem.W.callWith_F0 (first := []) atF ?_
      exact lam_runP (pr := none) (v0 := .non) (u0 := .none) (k := m) (E := E0) (tb := teL P w K mg base m X.N scope body) I2 hX.nd L hgd hf hfn hfr (fun u => hbind _ _ _ _ _) passL (hr'.mono (by omega)) (fun A outer s H g r => teL_pe (hX.mono (Nat.zero_le _)) A outer s H g r) IA hc rfl ht
    have Vr := fun (j : Nat) {i : Nat} {x : Str} e => (tab_loc tb_l_said hn (i := i) (x := x) j e).1
    have Lc := fun (j : Nat) {i : Nat} {x : Str} e => (tab_loc tb_l_said hn (i := i) (x := x) j e).2
    refine tb_set hZ (Lc 1 rfl) (te_lst (ta_nil ⟨by simp, fun q0 hq0 => ?_⟩))
    have e3 : Same H2 (upd H2 q0 (.lst [])) := same_new hq0
    refine tb_cons (PSto (ps_try_thru0 (pss_one (ps_set (i := 1) hZ.nd rfl (.inl rfl) (pe_lst (pa_cons (act _ _) pa_nil)) rfl (.inl rfl)))) ?_)
    refine ⟨rfl, e3 _ _ hco, fun Y hY => tE_mono (h _ (fun b o hb hn => e3 _ _ (eN b o hb hn)) (T2.ext e3) Y hY) fun v H5 k5 => ⟨by rw [sizeLine_eq]; simp, fun q hq => ?_⟩⟩
    have s7 : Slots K (L2.start n_l_said [V.ref f, V.ref q]) (upd H5 q (.lst [v])) (startS n_l_said [.r (.ref f), .r (.ref q)]) := startS_slots (.cons rfl (.cons rfl .nil))
    exact tb_ret (K := K) (Φ := MP.top) (ev_var (Vr 1 rfl) rfl) s7 trivial fun u H7 e7 d7 => by
        cases (show u = V.ref q from d7)
        exact k5 q H7 hq e7
  refine wpAny_call (codeAny_mono rc fun r s' hq => ?_)
  cases r with
  | error e => exact False.elim hq
  | ok fl =>
    cases fl with
    | ret u => exact I2.after hq
    | next => exact False.elim hq
    | brk => exact False.elim hq
    | cont => exact False.elim hq
end
end BL
end

section
set_option Elab.async false
set_option linter.all false
set_option maxRecDepth 100000
set_option maxHeartbeats 4000000
/-! BMp: try with clauses `except X as n`, of which one takes the exception. -/
namespace BL
open PySem PySem.Spec PyProof.Rows L2
/-- clauses: those of l pass it by, the next takes it -/
inductive HdsA (X : Cx) (n : Str) (c : Value) (ts : Addr → Value → Option Addr → TS) : List ExceptHandler → List Value → Prop
  | take {x : Str} {b₀ : Stmt} {suite : List Stmt} {np pos' : Pos} {hds : List ExceptHandler} (hc : Names X x c)
      (hsu : ∀ (a : Addr) (oe : Obj) (cls : Value) (d : Option Addr) (pn : List (Addr × Obj)), Zc cls d oe → (∃ vs, oe.data = .fields vs) → PSs (X.suite a ((a, oe) :: pn)) (b₀ :: suite) (ts a cls d)) : HdsA X n c ts (.ExceptHandler (some (.Name x np)) (some n) (b₀ :: suite) pos' :: hds) []
  | skip {x : Str} {c' : Value} {nm : Option Str} {su : List Stmt} {np pos' : Pos} {hds : List ExceptHandler} {l : List Value} (hc : Names X x c') (r : HdsA X n c ts hds l) : HdsA X n c ts (.ExceptHandler (some (.Name x np)) nm su pos' :: hds) (c' :: l)
/-- what they wish of an exception -/
def wA (K : PySem.W.Frag) (l : List Value) (c : Value) (i : Nat) (ts : Addr → Value → Option Addr → TS) (D : Ends) : WX := fun cls d σ H =>
  (∀ c' ∈ l, PySem.W.exmOne K cls c' = some false) ∧ PySem.W.exmOne K cls c = some true ∧ ∀ a, H a = none → ts a cls d { nx := fun σ' H' => D.nx (σ'.set i none) H', rt := D.rt, bk := fun σ' H' => D.bk (σ'.set i none) H', ct := fun σ' H' => D.ct (σ'.set i none) H' } (σ.set i (some (.ref a))) H
section
variable {X : Cx} {n : Str} {c : Value} {i : Nat} {body : List Stmt} {h₀ : ExceptHandler} {hds : List ExceptHandler} {l : List Value} {pos : Pos} {tb : WX → TS} {ts : Addr → Value → Option Addr → TS}
theorem ps_try_asM (hs : X.stack = X.env :: X.outer) (hf : X.env.frame = some X.env.locals) (hN : X.N.Nodup) (hi : X.N[i]? = some n) (hln : X.env.kindOf n = some .local)
    (hb : ∀ (W : WX) (pn : List (Addr × Obj)) (xe : Value → Shared → Prop), Takes (X.tr pn xe) W → PassesOwn (model X.prog X.w) X.A X.env xe → PSs (X.tr pn xe) body (tb W))
    (hh : HdsA X n c ts (h₀ :: hds) l) : PS X (.Try body (h₀ :: hds) [] [] pos) (fun D σ H => tb (wA X.K l c i ts D) D σ H) := by
  refine ⟨fun pins s σ H D I h => ?_⟩
  have ok := I.ok
  have frs' : X.A.frames = some (X.env :: X.outer) := by rw [ok.frames, hs]
  have hloc : Loc X.env.scope n := .inl hln
  refine wpAny_Try_except (wpAny_mono ((hb (wA X.K l c i ts D) (X.pn ++ pins) (fun e s₁ => wpAny (model X.prog X.w) X.A (noteFrame e X.env) (fun _ s₂ => wpAny (model X.prog X.w) X.A (setFlight e none) (fun _ s₃ => wpAny (model X.prog X.w) X.A (handleBy e X.env (h₀ :: hds)) (SP X pins D) X.xe s₃) X.xe s₂) X.xe s₁) (fun u s' xx => ?_) PassesOwn.looking).run [] s σ H D (I.toTry _) h)
    (fun f s1 hsp => ?_) (fun e s1 he => he))
  · obtain ⟨a, B, sI, pins', σ', H', cls, d, rfl, J', nb, up, sky, na, os, ag, w1, w2, w3⟩ := xx
    have J : Inv X pins σ' H' sI := J'.ofTry ok
    have sky' : Sky B (X.env :: X.outer) a (Zc cls d) X.env.locals s'.heap := hs ▸ sky
    show wpAny (model X.prog X.w) X.A (noteFrame (.ref a) X.env) _ _ _
    refine Sky.land Zc.steady frs' hf sky' fun h3 fl3 up3 => ?_
    have J3 : Inv X pins σ' H' { s' with heap := h3 } := J.landed nb fl3.1 (up.trans up3) os ag
    obtain ⟨oe3, vs3, he3, hz3, hd3⟩ := fl3.there
    have nfr : a ∉ frs (X.env :: X.outer) := fun hm => by
      obtain ⟨_, o', e', hnf⟩ := fl3.2.2.1.mem hm
      rw [he3] at e'; cases e'
      exact hnf _ hd3
    have nL : a ≠ X.env.locals := fun z => nfr (List.mem_filterMap.mpr ⟨X.env, List.mem_cons_self, by rw [hf, z]⟩)
    have nF : a ∉ X.fs := fun hm => (List.mem_filterMap.mp hm).elim fun e q => nfr (List.mem_filterMap.mpr ⟨e, List.mem_cons_of_mem _ q.1, q.2⟩)
    have S3 := J3.suite he3 hd3 na nL nF
    have LT : PySem.W.Looks (model X.prog X.w) h3 (typeOf (.ref a)) cls := fun A Q E s k q => wpAny_typeOf_ref (k _ _ he3) (hz3.1.symm ▸ q)
    have test : ∀ {x : Str} {c : Value} {np : Pos} {Q : Value → Shared → Prop} {E : Value → Shared → Prop}, Names X x c → Q c { s' with heap := h3 } → wpAny (model X.prog X.w) (X.A.mark (some (.ref a))) (eval (.Name x np) X.env) Q E { s' with heap := h3 } := fun {x c np Q E} hc q => by
      rcases hc with ⟨hg, hdbg, hm | ⟨hm, hv, hnn⟩⟩
      · exact ld_glob (X := X.suite a ((a, oe3) :: (X.pn ++ pins))) S3 hg hm q hdbg
      · exact ld_blt (X := X.suite a ((a, oe3) :: (X.pn ++ pins))) S3 hg hm hv q hnn hdbg
    have go : ∀ {hds' : List ExceptHandler} {l' : List Value}, HdsA X n c ts hds' l' → (∀ c' ∈ l', PySem.W.exmOne X.K cls c' = some false) → wpAny (model X.prog X.w) X.A (handleBy (.ref a) X.env hds') (SP X pins D) X.xe { s' with heap := h3 } := by
      intro hds' l' hk
      induction hk with
      | @skip x c' nm su np pos' hds2 l2 hc r ih =>
        intro w
        refine wpAny_handleBy_cons (codeAny_handlers_test ?_) (by intro q; cases q)
        refine test hc ((PySem.W.exm_one (M := model X.prog X.w) J3.kIn LT (w _ List.mem_cons_self)).here ?_)
        show wpAny _ X.A (handleBy (.ref a) X.env hds2) _ _ _
        exact ih fun c2 h2 => w c2 (List.mem_cons_of_mem _ h2)
      | @take x b₀ suite np pos' hds2 hc hsu =>
        intro _
        refine wpAny_handleBy_cons (codeAny_handlers_test ?_) (by intro q; cases q)
        refine test hc ((PySem.W.exm_one (M := model X.prog X.w) J3.kIn LT w2).here ?_)
        refine codeAny_handlers_suite_as (HandSPX.lands_againZ fl3 fun h4 fl4 up4 => ?_)
        have J4 : Inv X pins σ' H' { s' with heap := h4 } := J.landed nb fl4.1 ((up.trans up3).trans up4) os ag
        obtain ⟨oe4, vs4, he4, hz4, hd4⟩ := fl4.there
        refine store_ok (X := X.suite a ((a, oe4) :: (X.pn ++ pins))) (v := .ref a) (J4.suite he4 hd4 na nL nF) hN hi hloc rfl (fun s5 S5 => ?_) (.inr hln)
        refine wpAny_mono ((hsu a oe4 cls d (X.pn ++ pins) hz4 ⟨_, hd4⟩).run [] s5 _ H' _ S5 (w3 a na)) (fun f s6 hsp => ?_) (fun _ _ z => False.elim z)
        have end_ : ∀ {σ6 : L2.St} {H6 : Hp} {Q : Shared → Prop}, Inv (X.suite a ((a, oe4) :: (X.pn ++ pins))) [] σ6 H6 s6 → (∀ s7, Inv X pins (σ6.set i none) H6 s7 → Q s7) → wpAny (model X.prog X.w) X.A (do bindName X.env n .none; unbindBehindTheSuite X.env n pos') (fun _ s7 => Q s7) X.xe s6 := fun S6 hq => gone_ok (S6.unsuite ok) hN hi hln hq
        cases f with
        | next => exact hsp.elim fun σ6 ⟨H6, S6, q6⟩ => end_ S6 fun s7 J7 => ⟨_, _, J7, q6⟩
        | brk => exact hsp.elim fun σ6 ⟨H6, S6, q6⟩ => end_ S6 fun s7 J7 => ⟨_, _, J7, q6⟩
        | cont => exact hsp.elim fun σ6 ⟨H6, S6, q6⟩ => end_ S6 fun s7 J7 => ⟨_, _, J7, q6⟩
        | ret u => exact hsp.elim fun v6 ⟨σ6, H6, S6, r6, q6⟩ => end_ S6 fun s7 J7 => ⟨_, _, _, J7, r6, q6⟩
    exact go hh w1
  · cases f with
    | next => exact hsp.elim fun σ' ⟨H', J', q⟩ => wpAny_execs_nil ⟨σ', H', J'.ofTry ok, q⟩
    | brk => exact hsp.elim fun σ' ⟨H', J', q⟩ => ⟨σ', H', J'.ofTry ok, q⟩
    | cont => exact hsp.elim fun σ' ⟨H', J', q⟩ => ⟨σ', H', J'.ofTry ok, q⟩
    | ret u => exact hsp.elim fun v ⟨σ', H', J', r, q⟩ => ⟨v, σ', H', J'.ofTry ok, r, q⟩
end
end BL
end

section
set_option Elab.async false
set_option linter.all false
set_option maxRecDepth 100000
set_option maxHeartbeats 4000000
/-! BMq: the call of ValueError.__init__ bound to an exception of an own class. -/
namespace BQ
open PySem PySem.W PySem.Calls PyProof.Rows PySem.HandSPX
section
variable {prog : Program} {w : World} {A : Around} {E : Value → Shared → Prop} {h : Heap} {g : Array GenState} {d : Drawn} {t : Nat} {os : OsState}
variable {nm qn : Str} {C N : Addr} {bs bm : List Value} {hdct : Bool} {sn : List Str} {sub : List Value} {ab : Bool} {col : Option Bool} {dd : Option Addr} {k0 k1 k2 k3 k5 : Option Value}
theorem mw_call {u e t0 : Addr} {rest : List Value} {Q : Value → Shared → Prop}
    (hC : h.get? C = some (excClassObj nm qn C N bs bm hdct sn sub ab col dd k0 k1 k2 k3 k5 "ValueError.__new__")) (he : h.get? e = some (excO C t0)) (hu : h.get? u = some (kxs_mw "ValueError.__init__" e)) (hz : rest.length ≤ sizeLine)
    (hq : ∀ h' t1, (∀ b o, b ≠ e → h.get? b = some o → h'.get? b = some o) → h'.get? e = some (excO C t1) → Q .none ⟨h', g, d, t, os⟩) :
    wpAny (model prog w) A (call (.ref u) rest) Q E ⟨h, g, d, t, os⟩ := by
  refine wpAny_call (codeAny_of_tree ?_)
  show wpAny (model prog w) A.in1 (callAny (.ref u) ⟨rest, []⟩) _ _ _
  simp only [callAny]
  refine wpAny_bind (wpAny_load hu ?_)
  simp only [kxs_mw]
  refine KFB.if_so (by decide) ?_
  show wpAny _ _ (if (Value.type "method-wrapper" != Value.type "method") = true then _ else _) _ _ _
  refine KFB.if_so (by decide) ?_
  refine wpAny_bind (check_bound_init F.excBase_ValueError.toExcCallFacts hC he rfl (wpAny_pure ⟨plainId_quiet F.excBase_ValueError.init.plain _, codeAny_builtin F.excBase_ValueError.initEntry ?_⟩))
  rw [Around.under_plainId F.excBase_ValueError.init.plain _]
  wp_walk
  refine hq _ h.objs.size (fun b o hb ho => ?_) ?_
  · rw [Heap.get?_update_other _ _ (Ne.symm hb)]
    exact Heap.get?_push_of_some _ ho
  · rw [Heap.get?_update_self _ (Heap.get?_push_of_some _ he) rfl]
    rfl
end
end BQ
end

section
set_option Elab.async false
set_option linter.all false
set_option maxRecDepth 100000
set_option maxHeartbeats 4000000
/-! BMr: BadCall.__init__ (super().__init__ in an own exception). -/
namespace BL
open PySem PySem.Spec PyProof.Rows L2
/-- the facts of the class BadCall -/
structure BadF (P : Program) (K : PySem.W.Frag) (mg : Str → Option Value) (C fI cc cda : Addr) (fd : FuncData) : Prop where
  at_ : mg "BadCall" = some (.ref C)
  sup : mg "super" = none
  oex : OexC K C
  xf : XfC K C
  init : PySem.W.findIn K (.ref C) "__init__" = some (some (.ref fI))
  ty : PySem.W.typeIn K (.ref fI) = some (.type "function")
  fn : ∃ (oc : Value) (od : Option Addr) (kV doc pm : Value) (an : Option Addr) (ct : Value) (osl : Array (Option Value)), fd = PySem.W.ksFn "__init__" "BadCall.__init__" (defArgs s_BadCall___init) (defBody s_BadCall___init) (defScope s_BadCall___init) .none kV doc pm an (.ref cda) ct cc ∧ K.lookup fI = some ⟨oc, od, .func fd, osl⟩
  code : PySem.W.codeIn K (.ref cda) "BadCall.__init__" = true
  file : ∃ (ccl : Value) (cdd : Option Addr) (vs : Array Value) (ccs : Array (Option Value)) (file : Str) (tf : Tok), K.lookup cda = some ⟨ccl, cdd, .fields vs, ccs⟩ ∧ vs[2]? = some (.str file tf) ∧ ((P.main.file : Str) == file) = true
  cell : ∃ (cl : Value) (cld : Option Addr) (csl : Array (Option Value)), K.lookup cc = some ⟨cl, cld, .cell (some (.ref C)), csl⟩
  mro : PySem.W.mroIn K C (.ref C) = some true
  opq : PySem.W.nsIn K cStatics "thirdparty.any" = some none
  up : PySem.W.ks_superIn K C C "__init__" = some (some (.builtin "ValueError.__init__"))
  sub : PySem.W.subIn K (.ref C) (.type "ValueError") = some true
  noP : PySem.W.findIn K (.ref C) "place" = some none
  top : (P.main.scope.names.lookup ("super" : Str)).isSome = false
abbrev supEnv (L f cc cda : Addr) : Env := PySem.W.ksEnv "BadCall.__init__" (defScope s_BadCall___init) L f (.ref cda) cc
/-- the context of its body -/
def cxSup (P : Program) (w : World) (K : PySem.W.Frag) (mg : Str → Option Value) (base : Heap) (f cc cda : Addr) (A : Around) (outer : List Env) (s : Shared) (H : Hp) : Cx where
  prog := P
  w := w
  K := K
  mg := mg
  base := base
  A := A.deeper (supEnv s.heap.objs.size f cc cda)
  N := n_BadCall___init
  s_0 := s
  H_0 := H
  env := supEnv s.heap.objs.size f cc cda
  outer := outer
  stack := supEnv s.heap.objs.size f cc cda :: outer
  ex := []
  calm := true
  fn := fun _ => false
  pn := []
  xe := fun _ _ => False
section
variable {M : Model} {A : Around} {E : Value → Shared → Prop} {s : Shared}
theorem mw_callWith {pos : Pos} {env : Env} {e : Expr} {rest : List Expr} {u x : Addr} {i : String} {Q : Value → Shared → Prop}
    (h : wpAny M A (spliced (backTo pos (starEach (e :: rest) env))) (fun vs s₁ => PySem.W.KxsAt i u x s₁.heap ∧ wpAny M A (call (.ref u) vs) Q E s₁) E s)
    (he : starEach (e :: rest) env = (false, eval e env) :: starEach rest env := by rfl) (hplain : (backTo pos (starEach rest env)).any (·.1) = false := by rfl) :
    wpAny M A (callWith pos (.ref u) [] (backTo pos (starEach (e :: rest) env)) []) Q E s := by
  rw [he] at h ⊢
  refine PySem.W.kxs_callWith (i := i) (x := x) (by show (false || (backTo pos (starEach rest env)).any (·.1)) = false; rw [hplain]; rfl) ?_
  exact Calls.evalArgs_plain h
end
section
variable {P : Program} {w : World} {K : PySem.W.Frag} {mg : Str → Option Value} {base : Heap} {C fI cc cda : Addr} {fd : FuncData}
theorem one_cell {x y : Str} {a b : Addr} (h : List.lookup x [(y, a)] = some b) : x = y ∧ b = a := by
  by_cases e : x = y
  · subst e
    have h' : List.lookup x [(x, a)] = some a := by simp [List.lookup]
    rw [h'] at h
    exact ⟨rfl, (Option.some.inj h).symm⟩
  · have e' : (x == y) = false := by simpa using e
    simp [List.lookup, e'] at h
theorem look_self (u0 u1 : Value) : List.lookup ("self" : Str) [(("self" : Str), u0), ("place", u1)].reverse = some u0 := by
  have e : (("self" : Str) == ("place" : Str)) = false := by decide +kernel
  simp [List.lookup, e]
theorem look_place (u0 u1 : Value) : List.lookup ("place" : Str) [(("self" : Str), u0), ("place", u1)].reverse = some u1 := by
  simp [List.lookup]
theorem sup_kind : (defScope s_BadCall___init).kind = .function := by decide +kernel
theorem sup_names : ∀ y ∈ (defScope s_BadCall___init).names, y.2 ≠ .cell ∧ (y.2 = .free → y.1 = "__class__") := by decide +kernel
theorem sup_self : (defScope s_BadCall___init).names.lookup ("self" : Str) = some .local := by decide +kernel
theorem sup_place : (defScope s_BadCall___init).names.lookup ("place" : Str) = some .local := by decide +kernel
theorem sup_super : (defScope s_BadCall___init).names.lookup ("super" : Str) = some .globalImplicit := by decide +kernel
theorem sup_class : (defScope s_BadCall___init).names.lookup ("__class__" : Str) = some .free := by decide +kernel
theorem sup_start {A : Around} {outer : List Env} {s : Shared} {H : Hp} {v0 v1 : V} {u0 u1 : Value} {h₁ : Heap} {tk : Nat} {od : Option Addr} {csl : Array (Option Value)} {cl : Value} (hd : A.handled = none) (e0 : Env0 P w K mg base A outer s H) (r0 : RelV v0 u0) (r1 : RelV v1 u1)
    (hcc : K.lookup cc = some ⟨cl, od, .cell (some (.ref C)), csl⟩)
    (hns : h₁.Ns s.heap.objs.size fun y => [(("self" : Str), u0), ("place", u1)].reverse.lookup y) (kp : ∀ b o, s.heap.get? b = some o → h₁.get? b = some o) :
    Inv (cxSup P w K mg base fI cc cda A outer s H) [] [some v0, some v1] H { s with heap := h₁, toks := tk } := by
  have noA : ∀ b : Addr, b ∉ (cxSup P w K mg base fI cc cda A outer s H).ex := fun b z => nomatch (show b ∈ ([] : List Addr) from z)
  have hb := e0.bs cc _ (e0.mod.kin _ _ hcc)
  refine ⟨⟨e0.mod, sup_kind, rfl, rfl, Nat.le_refl _, fun y z c e1 e2 => ?_, fun y hy => ?_, fun y c (z : false = true) _ => (by cases z), fun _ => hd, Around.frames_deeper e0.frames, .inr ⟨rfl, rfl⟩, fun b z => absurd z (noA b), e0.bs, e0.bsz, fun b _ _ => noA b, fun b z => absurd z (noA b), e0.funs, e0.frf⟩,
    rfl, e0.bare, Un.kept kp, ⟨_, hns, fun i y v e1 e2 e3 => ?_⟩, fun y c e => ?_, e0.hok.fresh (Nat.le_refl _), fun y c e => ?_, fun q hq => (nomatch (show q ∈ ([] : List (Addr × Obj)) ++ [] from hq)), e0.hok.kept kp, rfl⟩
  · exact (one_cell e1).1.trans (one_cell e2).1.symm
  · rcases (show (defScope s_BadCall___init).names.lookup y = some .cell ∨ (defScope s_BadCall___init).names.lookup y = some .free from hy) with k | k
    · exact absurd rfl (sup_names _ (PySem.mem_of_lookup k)).1
    · have : y = "__class__" := (sup_names _ (PySem.mem_of_lookup k)).2 rfl
      subst this
      exact ⟨cc, by show List.lookup _ [(_, cc)] = _; simp [List.lookup]⟩
  · match i with
    | 0 =>
      cases (show some ("self" : Str) = some y from e1)
      cases (show some (some v0) = some (some v) from e2)
      exact ⟨u0, r0, .inl ⟨sup_self, look_self u0 u1⟩⟩
    | 1 =>
      cases (show some ("place" : Str) = some y from e1)
      cases (show some (some v1) = some (some v) from e2)
      exact ⟨u1, r1, .inl ⟨sup_place, look_place u0 u1⟩⟩
    | i + 2 => cases (show (none : Option (Option V)) = _ from e2)
  · obtain ⟨_, rfl⟩ := one_cell e
    exact ⟨_, _, kp _ _ hb.1, rfl⟩
  · obtain ⟨_, rfl⟩ := one_cell e
    exact hb.2
/-- what it keeps -/
def spBad (C : Addr) : Sp := fun vs H Q _ => ∃ (a : Addr) (v : V), vs = [.ref a, v] ∧ H a = some (exo a C none) ∧ ∀ d, H d = none → d ≠ a → Q .non (upd (upd H d (exd d [("place", v)])) a (exo a C (some d)))
theorem f_badinit (B : BadF P K mg C fI cc cda fd) : FnOk P w K mg base CX0 2 fI fd ["self", "place"] (spBad C) := by
  refine ⟨fun vs H Q E h => ?_, fun A outer s H args us vs Q E hr e0 hb r hsp => ?_⟩
  · obtain ⟨a, v, rfl, _⟩ := h
    rfl
  obtain ⟨a, v, rfl, ha, hq⟩ := hsp
  cases r with
  | @cons _ u0 _ ur ra rr =>
  cases rr with
  | @cons _ u1 _ ur rv rn =>
  cases rn
  obtain rfl : u0 = Value.ref a := ra
  have KX : K.In s.heap := e0.mod.kin.keeps fun b o e => (e0.bs b o e).1
  have lim : s.heap.NoLimit := e0.mod.nolimit.keeps fun b o e => (e0.bs b o e).1
  obtain ⟨oc, od, kV, doc, pm, an, ct, osl, efd, lk⟩ := B.fn
  obtain ⟨ccl, cdd, fvs, ccs, file, tf, hcode, hvs, hfile⟩ := B.file
  obtain ⟨cl, cld, csl, hcell⟩ := B.cell
  obtain ⟨nm, qn, Nn, bs, bm, sn, sub, ab, col, dd, k0, k1, k2, k3, k5, hC, hbm⟩ := B.oex.cls
  have hcl : PySem.W.clsIn K C = some { name := nm, bases := bs, mro := .ref C :: bm, ns := Nn, qualname := qn, hasDict := true, slotNames := sn, subclasses := sub, abstract := ab, collection := col, hasDel := false } := by unfold PySem.W.clsIn; rw [hC] <;> rfl
  subst efd
  refine PySem.ks_codeAny_call_defAt (body := defBody s_BadCall___init) (binds := [("self", .ref a), ("place", u1)]) hr.depth (KX _ _ lk) rfl lim (PySem.W.codeRec_of KX B.code) rfl hb (fun y hy => (sup_names y hy).1) (fun y hy => ?_) (fun h₁ hns kp => ?_)
  · rcases List.mem_cons.mp hy with rfl | hy
    · exact sup_self
    · rcases List.mem_cons.mp hy with rfl | hy
      · exact sup_place
      · cases hy
  have I : Inv (cxSup P w K mg base fI cc cda A outer s H) [] [some (.ref a), some v] H { s with heap := h₁, toks := s.toks + 2 } := sup_start hr.hd e0 rfl rv hcell hns kp
  show PySem.wpAt (model P w) (cxSup P w K mg base fI cc cda A outer s H).A (.func (defBody s_BadCall___init) (supEnv s.heap.objs.size fI cc cda)) (execs (defBody s_BadCall___init) (supEnv s.heap.objs.size fI cc cda)) _ _ _
  have KX1 : K.In h₁ := I.kIn
  refine ks_wpAt_execs_cons (ks_wpAt_Expr_any (ks_wpAt_MethodCall (ks_wpAt_super_base (env := supEnv s.heap.objs.size fI cc cda) sup_super sup_class (by decide) rfl (KX1 _ _ lk) rfl (by rfl) rfl (KX1 _ _ hcode) rfl hvs hfile B.top ?_)))
  obtain ⟨mb, hb1, hb2⟩ := I.mod.blt
  refine PySem.W.ks_loadName_global sup_kind sup_super (Calls.loadGlobal_builtin (env := supEnv s.heap.objs.size fI cc cda) (I.mod.glob.keeps I.bk) B.sup (hb1.keeps I.bk) ((hb2 _ (by decide)).trans PyProof.Rows.Boot.«super») ⟨rfl, ?_⟩)
  refine wpAny_loadName_free sup_kind sup_class (by show List.lookup _ [(_, cc)] = some cc; simp [List.lookup]) ⟨_, KX1 _ _ hcell, rfl⟩ ?_
  refine wpAny_loadName_local sup_kind sup_self hns (look_self _ u1) ?_
  refine ks_wpAny_isType_cls (KX1 _ _ hC) rfl ⟨rfl, ?_⟩
  obtain ⟨t1, ho⟩ := exo_at I.hok ha
  refine ks_wpAny_call_super (KX1 _ _ hC) rfl ho rfl (fun c z => nomatch z) (PySem.W.looks_mroIn KX1 B.mro) (fun h' e' k' => ?_)
  have K2 : K.In h' := KX1.keeps (fun b o z => k' b o z)
  have hinst : PySem.W.InstAt h' a _ C none := ⟨k' _ _ ho, rfl, rfl, trivial⟩
  have hup : PySem.W.alongIn K "__init__" (((Value.ref C :: bm).dropWhile (· != .ref C)).drop 1) = some (some (.builtin "ValueError.__init__")) := by
    have z := B.up
    unfold PySem.W.ks_superIn at z
    rw [hcl] at z
    exact z
  refine PySem.W.kxs_getMethod PySem.W.kxs_ValueError e' (PySem.W.looks_opaque K2 B.opq) (l₀ := .ref C :: bm) (fun A Q E s k q => wpAny_bind ((PySem.W.looks_clsIn K2 hcl) A _ E s k (wpAny_pure q))) rfl K2 hup (hinst.type.andThen (PySem.W.looks_subIn K2 B.sub)) (PySem.W.ks_ne K2 hinst hcl) (by decide) ?_
  have k2 : ∀ b o, h₁.get? b = some o → (h'.push (PySem.W.kxs_mw "ValueError.__init__" a)).get? b = some o := fun b o z => Heap.get?_push_of_some _ (k' b o z)
  have I2 : Inv (cxSup P w K mg base fI cc cda A outer s H) [] [some (.ref a), some v] H { s with heap := h'.push (PySem.W.kxs_mw "ValueError.__init__" a), toks := s.toks + 2 } := I.kept (t' := s.toks + 2) k2
  have hu : (h'.push (PySem.W.kxs_mw "ValueError.__init__" a)).get? h'.objs.size = some (PySem.W.kxs_mw "ValueError.__init__" a) := Heap.get?_push_at rfl rfl
  refine mw_callWith (x := a) (Calls.spliced_cons (Calls.Constant_str (k := 0) (pos := ⟨0, 0, 0, 0⟩) (Calls.spliced_nil ⟨hu, ?_⟩)))
  refine BQ.mw_call (I2.kIn _ _ hC) (k2 _ _ ho) hu (by rw [sizeLine_eq]; simp) (fun h3 t3 k3 e3 => ?_)
  have J := I2.write (t' := s.toks + 2) (x := a) (e := a) (o := exo a C none) (by rw [ha]; exact True.intro) (.inl rfl) k3 ⟨_, e3⟩ (exo_ok e3)
  have eu : upd H a (exo a C none) = H := by
    funext b
    by_cases hb : b = a
    · rw [hb, upd_same, ha]
    · rw [upd_ne hb]
  rw [eu] at J
  have hN : (["self", "place"] : List Str).Nodup := by decide
  refine wpAt_of_wpAny (wpAny_mono ((pss_one (ps_ost (f := "place") (pe_var (X := cxSup P w K mg base fI cc cda A outer s H) (i := 0) rfl (.inl sup_self) (by decide) (by decide)) (pe_var (X := cxSup P w K mg base fI cc cda A outer s H) (i := 1) rfl (.inl sup_place) (by decide) (by decide)))).run [] _ _ H { nx := fun _ H' => Q .non H', rt := Q } (J.tok _) ⟨v, rfl, .ref a, rfl, a, C, rfl, B.oex, B.noP, .inl ⟨ha, fun d hd hne => hq d hd hne⟩⟩) (fun fl s' hs => ?_) fun _ _ z => z.elim)
  cases fl with
  | next =>
    obtain ⟨σ', H', J', q⟩ := hs
    exact ⟨.non, H', J'.os, J'.bare, J'.base, J'.hok, rfl, q⟩
  | ret u =>
    obtain ⟨v', σ', H', J', rv', q⟩ := hs
    exact ⟨v', H', J'.os, J'.bare, J'.base, J'.hok, rv', q⟩
  | brk =>
    obtain ⟨_, _, _, q⟩ := hs
    exact False.elim q
  | cont =>
    obtain ⟨_, _, _, q⟩ := hs
    exact False.elim q
end
end BL
end

section
set_option Elab.async false
set_option linter.all false
set_option maxRecDepth 100000
set_option maxHeartbeats 4000000
/-! BMs: what raises: raise BadCall(..), need_fare, call, give; their calls. -/
namespace BL
open PySem PySem.Spec PyProof.Rows L2
section
variable {P : Program} {w : World} {K : PySem.W.Frag} {mg : Str → Option Value} {base : Heap} {k : Nat} {T : List (Addr × Str)}
variable {X : Cx} {Γ Γ' : Gm} {Φ : MP} {a b c e tg it : Expr} {es : List Expr} {pos p pos' : Pos} {s t : Sv} {ss : List Sv} {σ : L2.St} {H : Hp} {D : Ends} {st : Stmt} {sts bd el : List Stmt} {C B fI cc cda : Addr} {fdI : FuncData} {W : WX}
/-- what is wished of a raised BadCall at H: its class, its dict -/
def BadX (B : Addr) (n : Int) (E : XK) (H : Hp) : Prop := ∀ d H', Same H H' → H' d = some (.xd [("place", .int n)]) → E (.ref B) (some d) H'
theorem BadX.up {n : Int} {E : XK} {H H1 : Hp} (h : BadX B n E H) (e : Same H H1) : BadX B n E H1 := fun d H' e' q => h d H' (e.trans e') q
/-- raise BadCall(n) -/
theorem ts_bad {n : Int} (hX : In P w K mg base k X) (BF : BadF P K mg B fI cc cda fdI) (tk : Takes X W) (g : GlAt X "BadCall") (hk : 3 ≤ k) (bd : Binds K fdI ["self", "place"] []) (ha : Ev K X Γ Φ e (.d (.int n))) (hs : Slots K σ H Γ) (hp : Φ.p H) (h : BadX B n (fun cls d H' => W cls d σ H') H)
    (he : starEach [e] X.env = (false, eval e X.env) :: starEach [] X.env := by rfl) (hpl : (backTo pos (starEach [] X.env)).any (·.1) = false := by rfl) : tS X (.Raise (some (.Call (.Name "BadCall" p) [e] [] pos)) none pos') D σ H := by
  have F1 : FnOk X.prog X.w X.K X.mg X.base CX0 2 fI fdI ["self", "place"] (spBad B) := by rw [hX.prog, hX.w, hX.K, hX.mg, hX.base]; exact f_badinit BF
  refine PSto (ps_raise hX.calm tk (pmk_oex (C := B) (by rw [hX.K]; exact BF.oex) (by rw [hX.K]; exact BF.init) (by rw [hX.K]; exact BF.ty) F1 (hX.room.mono hk) (by rw [hX.K]; exact bd) .nil pass0 g.1 (by rw [hX.mg]; exact BF.at_) (pa_cons pe_sem pa_nil he) (by decide) he hpl)) ?_
  refine ha σ H _ hs hp fun v H1 e1 d1 => ?_
  cases (dp_int d1)
  refine ⟨by simp, fun a ha => ⟨a, .int n, rfl, upd_same, fun d hd hne => ?_⟩⟩
  have hd1 : H1 d = none := by rw [upd_ne hne] at hd; exact hd
  refine ⟨rfl, d, [("place", .int n)], upd_same, by rw [upd_ne hne, upd_same], hd1, ?_⟩
  refine h d _ (fun b o q => ?_) upd_same
  have q1 := e1 b o q
  rw [upd_ne (ne_of_none q1 hd1), del_ne (ne_of_none q1 ha), upd_ne (ne_of_none q1 ha), upd_ne (ne_of_none q1 hd1), upd_ne (ne_of_none q1 ha)]
  exact q1
/-- THE RULE for a method that may raise -/
theorem em_mkX {x qual : Str} {N ps : List Str} {sp : Sp} {f : Addr} {fd : FuncData} (F : Fun K x qual st f fd) (S : FnScope N ps (defScope st)) (hl : ∀ vs H Q E, sp vs H Q E → vs.length = ps.length)
    (body : ∀ X, In P w K mg base k X → Nm N (defScope st) X → ∀ vs H Q E, Takes X (fun cls d _ H => E cls d H) → sp vs H Q E → tB X (defBody st) { nx := fun _ H' => Q .non H', rt := Q } (L2.start N vs) H) : FnOk P w K mg base (L2.CX P w) (k + 1) f fd ps sp :=
  F.okX S hl fun cdv A outer s H vs Q E hr h => ⟨_, pb_sem, body (cxOf (L2.CX P w) P w K mg base N qual (defScope st) f cdv A outer s H E) ⟨rfl, rfl, rfl, rfl, rfl, rfl, hr, S.nd⟩ ⟨rfl, rfl, fun _ => rfl, passes_of rfl⟩ vs H Q E (takes_of rfl rfl rfl rfl) h⟩
/-- e.m(..), which may raise -/
theorem te_methX {m : Str} {x f : Addr} {fs : List (Str × V)} {fd : FuncData} {ps : List Str} {sp : Sp} {j : Nat} {apos : Pos} {pl : Sem Bool} {Q : VK} {E : XK} (hX : In P w K mg base k X) (tk : Takes X W) (hE : ∀ cls d σ H, E cls d H → W cls d σ H) (c : Cls K C) (hm : Meth K C m f) (F : FnOk P w K mg base (L2.CX P w) j f fd ps sp) (bd : Binds K fd ps []) (hj : j ≤ k) (ha : Ev K X Γ Φ e (.r (.ref x)))
    (hs : Slots K σ H Γ) (hp : Φ.p H) (hi : ∀ H, Φ.p H → IsI C x fs H) (hl : fs.lookup m = none) (h : ∀ H1, Same H H1 → tA X (a :: es) σ H1 fun vs H2 => sp (.ref x :: vs) H2 Q E)
    (hst : starEach (a :: es) X.env = (false, eval a X.env) :: starEach es X.env := by rfl) (hpl : (backTo pos (starEach es X.env)).any (·.1) = false := by rfl)
    (ht : eval (.Call (.Attribute e m apos) (a :: es) [] pos) X.env = (do
      let ov ← eval e X.env
      standAt apos.atName
      let (f, first) ← holding [ov] (getMethod ov m pl)
      callWith pos f first (backTo pos (starEach (a :: es) X.env)) (backToKw pos (keywordEach [] X.env))) := by rfl) : tE X (.Call (.Attribute e m apos) (a :: es) [] pos) σ H Q := by
  have F' : FnOk X.prog X.w X.K X.mg X.base (L2.CX X.prog X.w) j f fd ps sp := by rw [hX.prog, hX.w, hX.K, hX.mg, hX.base]; exact F
  refine PEto (pe_meth (CX := L2.CX X.prog X.w) (E := E) pe_sem (by rw [hX.K]; exact c) (by rw [hX.K]; exact hm) F' (hX.room.mono hj) (by rw [hX.K]; exact bd) .nil (passes_call tk hE) pa_sem hst hpl ht) (ha σ H _ hs hp fun u H1 e1 h1 => ?_)
  obtain ⟨dx, hd⟩ := hi H1 (Φ.up e1 hp)
  cases (show u = V.ref x from h1)
  refine ⟨x, dx, fs, rfl, hd, hl, ?_⟩
  have q := h H1 e1
  refine ⟨fun pos pins s I => wpAny_mono (q.run pos pins s I) (fun _ _ ⟨vs, H', I', r, q⟩ => ⟨vs, H', I', r, by simp only [List.append_nil]; exact q⟩) fun _ _ z => z⟩
/-! ### need_fare, call at a text; give where none is sold -/
def spBadFare (K : PySem.W.Frag) (C B : Addr) : Sp := fun vs H _ E => ∃ (b : Addr) (h : Hl) (st : Stt) (x : Str), vs = [.ref b, .str x] ∧ BkAt K C b h st H ∧ BadX B 0 E H
theorem f_need_fareX {g : Addr} {fd : FuncData} (tx : Tx mg) (B : BookF K mg C) (BF : BadF P K mg Bd fI cc cda fdI) (bd : Binds K fdI ["self", "place"] []) (F : Fun K "need_fare" "Book.need_fare" s_Book_need_fare g fd) (Fw : PFn P w K mg base 1 "is_whole" R_whole) : FnOk P w K mg base (L2.CX P w) 4 g fd ["self", "fare"] (spBadFare K C Bd) := by
  refine em_mkX F sc_Book_need_fare (fun vs H Q E h => by obtain ⟨_, _, _, _, rfl, _⟩ := h; rfl) (fun X hX hn vs H Q E tk h => ?_)
  have Vr := fun (j : Nat) {i : Nat} {x : Str} e => (tab_loc tb_Book_need_fare hn (i := i) (x := x) j e).1
  have G := fun (j : Nat) {x : Str} e => tab_glo tb_Book_need_fare hn (x := x) j e
  obtain ⟨b, h, st, x, rfl, ⟨v1, v2, v3, bk⟩, kk⟩ := h
  have s0 : Slots K (L2.start n_Book_need_fare [.ref b, .str x]) H (startS n_Book_need_fare [.r (.ref b), .d (.str x)]) := startS_slots (.cons rfl (.cons (.str _) .nil))
  have kn : ∀ {b : Addr} {h : Hl} {st : Stt} {v1 v2 v3 : V}, Knows K C (BkVp K C b h st v1 v2 v3) b h st v1 v2 v3 := fun H q => q
  refine tb_ifP (Φ := BkVp K C b h st v1 v2 v3) (x := true) (EvT.to (evt_not (evt_val (ev_call (ds := [.str x, .int 0, .int _]) hX Fw (G 0 rfl) (by decide) (eva_cons (ev_var (Vr 1 rfl) rfl) (eva_cons ev_int (eva_cons (ev_sub (ev_lenT hX (G 1 rfl) tx.len (ds := h.fs.map PyData.int) (ev_ixT (ds := [.int h.s, iT h.fs]) hX (ev_hallF hX B kn (ev_var (Vr 0 rfl) rfl)) ev_int rfl)) ev_int) eva_nil))) (R_whole.str x _ _)))) rfl) s0 bk (fun _ H' e' => ?_) (fun z => nomatch z)
  exact tb_cons (ts_bad (Γ := startS n_Book_need_fare [.r (.ref b), .d (.str x)]) (Φ := MP.top) hX BF tk (G 2 rfl) (by decide) bd ev_int (s0.up e') trivial (kk.up e'))
def spGiveX (K : PySem.W.Frag) (C B : Addr) : Sp := fun vs H _ E => ∃ (b : Addr) (h : Hl) (st : Stt) (e : Ent) (j : Nat), vs = [.ref b, .int (j : Int)] ∧ BkAt K C b h st H ∧ BkOk h st e ∧ j < h.fs.length ∧ e.c.getD j 0 = 0 ∧ BadX B 0 E H
theorem f_bgiveX {g : Addr} {fd : FuncData} (tx : Tx mg) (B : BookF K mg C) (BF : BadF P K mg Bd fI cc cda fdI) (bd : Binds K fdI ["self", "place"] []) (F : Fun K "give" "Book.give" s_Book_give g fd) (Fw : PFn P w K mg base 1 "is_whole" R_whole) : FnOk P w K mg base (L2.CX P w) 4 g fd ["self", "fare"] (spGiveX K C Bd) := by
  refine em_mkX F sc_Book_give (fun vs H Q E h => by obtain ⟨_, _, _, _, _, rfl, _⟩ := h; rfl) (fun X hX hn vs H Q E tk h => ?_)
  have Vr := fun (j : Nat) {i : Nat} {x : Str} e => (tab_loc tb_Book_give hn (i := i) (x := x) j e).1
  have G := fun (j : Nat) {x : Str} e => tab_glo tb_Book_give hn (x := x) j e
  obtain ⟨b, h, st, e, j, rfl, ⟨v1, v2, v3, bk⟩, o, hj, hne, kk⟩ := h
  obtain ⟨f1, fd1, m1⟩ := B.need_fare
  have s0 : Slots K (L2.start n_Book_give [.ref b, .int (j : Int)]) H (startS n_Book_give [.r (.ref b), .d (.int (j : Int))]) := startS_slots (.cons rfl (.cons (.int _) .nil))
  have kn : ∀ {b : Addr} {h : Hl} {st : Stt} {v1 v2 v3 : V}, Knows K C (BkVp K C b h st v1 v2 v3) b h st v1 v2 v3 := fun H q => q
  refine tb_pure (Φ := BkVp K C b h st v1 v2 v3) (runS_expr (ev_meth (fs := fsB v1 v2 v3) (j := 2) (s := .d .none) (ss := [.d (.int (j : Int))]) hX B.cls m1.mt (f_need_fare tx B m1.fn Fw) m1.bd (by decide) (ev_var (Vr 0 rfl) rfl) (eva_cons (ev_var (Vr 1 rfl) rfl) eva_nil) (fun H q => q.i) rfl (.mk _ b h st v1 v2 v3 j kn o.ok hj))) s0 bk fun σ1 H1 e1 s1 => ?_
  have bk1 := bk.up e1
  refine tb_ifP (Φ := BkVp K C b h st v1 v2 v3) (x := true) (EvT.to (evt_eq hX (ev_ixT (ds := e.c.map PyData.int) hX (ev_bsold (en := e) hX B (by decide) kn (ev_var (Vr 0 rfl) rfl) o.la) (ev_var (Vr 1 rfl) rfl) (iT_get (by rw [o.so]; exact hj))) ev_int) (by rw [eqv_int, decide_eq_true hne])) s1 bk1 (fun _ H2 e2 => ?_) (fun z => nomatch z)
  exact tb_cons (ts_bad (Γ := startS n_Book_give [.r (.ref b), .d (.int (j : Int))]) (Φ := MP.top) hX BF tk (G 0 rfl) (by decide) bd ev_int (s1.up e2) trivial ((kk.up e1).up e2))
theorem f_bcallX {g : Addr} {fd : FuncData} (tx : Tx mg) (B : BookF K mg C) (BF : BadF P K mg Bd fI cc cda fdI) (bd : Binds K fdI ["self", "place"] []) (F : Fun K "call" "Book.call" s_Book_call g fd) (Fw : PFn P w K mg base 1 "is_whole" R_whole) : FnOk P w K mg base (L2.CX P w) 5 g fd ["self", "fare"] (spBadFare K C Bd) := by
  refine em_mkX F sc_Book_call (fun vs H Q E h => by obtain ⟨_, _, _, _, rfl, _⟩ := h; rfl) (fun X hX hn vs H Q E tk h => ?_)
  have Vr := fun (j : Nat) {i : Nat} {x : Str} e => (tab_loc tb_Book_call hn (i := i) (x := x) j e).1
  obtain ⟨b, h, st, x, rfl, ⟨v1, v2, v3, bk⟩, kk⟩ := h
  obtain ⟨f1, fd1, m1⟩ := B.need_fare
  have s0 : Slots K (L2.start n_Book_call [.ref b, .str x]) H (startS n_Book_call [.r (.ref b), .d (.str x)]) := startS_slots (.cons rfl (.cons (.str _) .nil))
  refine tb_drop (te_methX (Φ := BkVp K C b h st v1 v2 v3) (fs := fsB v1 v2 v3) (E := E) hX tk (fun _ _ _ _ z => z) B.cls m1.mt (f_need_fareX tx B BF bd m1.fn Fw) m1.bd (by decide) (ev_var (Vr 0 rfl) rfl) s0 bk (fun H q => q.i) rfl fun H1 e1 => ?_)
  refine ta_cons (Ev.goT (ev_var (Vr 1 rfl) rfl) (s0.up e1) fun v H2 e2 d2 => ta_nil ?_)
  cases (dp_str d2)
  exact ⟨b, h, st, x, rfl, ⟨v1, v2, v3, (bk.up e1).up e2⟩, (kk.up e1).up e2⟩
end
end BL
end

section
set_option Elab.async false
set_option linter.all false
set_option maxRecDepth 100000
set_option maxHeartbeats 4000000
/-! BMt: with, whose block raises; Trial.__exit__ called while an exception is in flight. -/
namespace BQ
open PySem PySem.W PySem.Calls PyProof.Rows
section
variable {prog : Program} {w : World} {A : Around} {E : Value → Shared → Prop} {s : Shared} {env : Env} {K : Frag} {x C fe fx : Addr} {h₀ : Heap} {ox : Obj} {od : Option Obj} {pos : Pos}
/-- with: the block may raise what ER says -/
theorem kw_coreX {b : Value → Sem Unit} {bdy : Sem Flow} {Q : Flow → Shared → Prop} {ER : Value → Shared → Prop} (X : K.In s.heap) (I : InstAt s.heap x ox C od) (he : findIn K (.ref C) "__enter__" = some (some (.ref fe))) (hfe : isFn K (.ref fe) = true) (hx : findIn K (.ref C) "__exit__" = some (some (.ref fx))) (hfx : isFn K (.ref fx) = true)
    (hR : ∀ e s₄, ER e s₄ → wpAny (model prog w) A (noteFrame e env) (fun _ s₅ => wpAny (model prog w) A (setFlight e none) (fun _ s₆ => wpAny (model prog w) A (typeOf e) (fun cls s₇ => wpAny (model prog w) A (tracebackOf e) (fun tb s₈ =>
      wpAny (model prog w) A (run (.call (.ref fx) ⟨[.ref x, cls, e, tb], []⟩) (some e)) (fun r s₉ => r = .ret .none ∧ wpAny (model prog w) A (passOn "with" e env) Q E s₉) (fun _ _ => False) s₈) (fun _ _ => False) s₇) (fun _ _ => False) s₆) (fun _ _ => False) s₅) (fun _ _ => False) s₄)
    (h : wpAny (model prog w) A (call (.ref fe) [.ref x]) (fun v s₂ => wpAny (model prog w) A (b v) (fun _ s₃ => wpAny (model prog w) A bdy (fun f s₄ => wpAny (model prog w) A (call (.ref fx) [.ref x, .none, .none, .none]) (fun _ s₅ => Q f s₅) E s₄) ER s₃) ER s₂) E s) :
    wpAny (model prog w) A (withItem false pos env (pure (.ref x)) (some b) bdy) Q E s := by
  obtain ⟨cd, hcd, ae⟩ := kw_along he
  obtain ⟨cd', hcd', ax⟩ := kw_along hx
  cases hcd.symm.trans hcd'
  obtain ⟨hh, g, d, tt, os⟩ := s
  have L1 : Looks (model prog w) hh (specialOnItsLine (.ref x) "__enter__") (some (.ref fe), cd.mro) := kw_special X I hcd ae
  have L2 : Looks (model prog w) hh (specialOnItsLine (.ref x) "__exit__") (some (.ref fx), cd.mro) := kw_special X I hcd ax
  have L3 : Looks (model prog w) hh (bindSpecial (.ref fe) (.ref x)) (.ref fe, [.ref x]) := bind_fn X _ (beq_iff_eq.mp hfe)
  have L4 : Looks (model prog w) hh (bindSpecial (.ref fx) (.ref x)) (.ref fx, [.ref x]) := bind_fn X _ (beq_iff_eq.mp hfx)
  have L5 : Looks (model prog w) hh (aMethodOfAnotherBuiltinTypeStops (.ref fe) cd.mro) () := Looks.of_pure rfl
  have L6 : Looks (model prog w) hh (aMethodOfAnotherBuiltinTypeStops (.ref fx) cd.mro) () := Looks.of_pure rfl
  unfold withItem
  refine wpAny_bind (wpAny_pure ?_)
  refine wpAny_bind (wpAny_standAt ?_)
  simp only [Bool.false_eq_true, if_false]
  kw_lk
  refine wpAny_mono h (fun v s₂ h₂ => ?_) fun _ _ z => z
  kw_lk
  refine wpAny_attempt (kw_held ?_)
  have onE : ∀ e s₄, ER e s₄ → wpAny (model prog w) A (do noteFrame e env; setFlight e none; standAt pos; holding [e] do
      let r ← withItem.marked e (.call (.ref fx) ⟨[.ref x] ++ [← typeOf e, e, ← tracebackOf e], []⟩)
      let r ← pure r
      let sw ← match r with | .none => pure false | .bool b => pure b | _ => do pure ((← withItem.marked e (.call (.type "bool") ⟨[r], []⟩)) == .bool true)
      if sw then (do rule "with.exit-swallows"; setFlight e none; pure Flow.next) else passOn "with" e env) Q E s₄ := fun e s₄ he => by
    refine wpAny_bind (wpAny_mono (hR e s₄ he) (fun _ s₅ h₅ => ?_) fun _ _ z => z.elim)
    refine wpAny_bind (wpAny_mono h₅ (fun _ s₆ h₆ => ?_) fun _ _ z => z.elim)
    refine wpAny_bind (wpAny_standAt (wpAny_holding ?_))
    refine wpAny_bind (wpAny_mono h₆ (fun cls s₇ h₇ => ?_) fun _ _ z => z.elim)
    refine wpAny_bind (wpAny_mono h₇ (fun tb s₈ h₈ => ?_) fun _ _ z => z.elim)
    unfold withItem.marked
    refine wpAny_bind (wpAny_bind (wpAny_mono h₈ (fun r s₉ h₉ => ?_) fun _ _ z => z.elim))
    obtain ⟨rfl, hp⟩ := h₉
    refine wpAny_pure (wpAny_bind (wpAny_pure ?_))
    refine wpAny_bind (wpAny_pure ?_)
    exact hp
  show wpAny _ _ (b v >>= fun _ => bdy) _ _ _
  refine wpAny_bind (wpAny_mono h₂ (fun _ s₃ h₃ => wpAny_mono h₃ (fun f s₄ h₄ => ?_) fun e s₄ he => ?_) fun e s₄ he => ?_)
  · kw_lk
    refine wpAny_mono h₄ (fun _ s₅ h₅ => ?_) fun _ _ z => z
    kw_lk
    exact h₅
  · exact onE e s₄ he
  · exact onE e s₄ he
end
end BQ
namespace BL
open PySem PySem.Spec PyProof.Rows L2
section
variable {P : Program} {w : World} {K : PySem.W.Frag} {mg : Str → Option Value} {base : Heap} {k : Nat} {T : List (Addr × Str)} {C DT : Addr}
/-- the body of __exit__, in any context -/
theorem exit_body {X : Cx} (hK : X.K = K) (hN : X.N = n_Trial___exit) (hsc : X.env.scope = defScope s_Trial___exit) (BB : BookF K mg C) (B : TrialF K mg DT) {vs : List V} {H : Hp} {Q : VK} {E : XK} (h : spExit K T C DT vs H Q E) :
    ∃ t, PSs X (defBody s_Trial___exit) t ∧ t { nx := fun _ H' => Q .non H', rt := Q } (L2.start n_Trial___exit vs) H := by
  have v0 : X.N[0]? = some ("self" : Str) := by rw [hN]; rfl
  have vl : Vis X.env.scope "self" := by rw [hsc]; exact .inl (by decide +kernel)
  have q := fun (p : Pos) => pe_var (X := X) (pos := p) (i := 0) v0 vl (by decide) (by decide)
  refine ⟨_, pss_cons (ps_fld (pe_fld (q _) rfl) (pe_fld (q _) rfl) rfl) (pss_one (ps_fld (pe_fld (q _) rfl) (pe_fld (q _) rfl) rfl)), ?_⟩
  obtain ⟨t, b, hh, st, st', x, y, z, rfl, ⟨w2, w3, ⟨dx, hi⟩, dp2, dp3⟩, ⟨v1, v2, v3, bk⟩, ne, kk⟩ := h
  obtain ⟨db, ib⟩ := bk.i
  rw [hK]
  refine ⟨.ref t, rfl, t, DT, dx, fsT b w2 w3, w2, rfl, hi, B.cls, B.np, rfl, .ref t, rfl, t, DT, dx, fsT b w2 w3, .ref b, rfl, hi, B.cls, B.nh, rfl, b, C, db, fsB v1 v2 v3, rfl, ib, BB.cls, BB.np, by simp [fsB], ?_⟩
  have hi2 : upd H b (.ins C db (putF "past" w2 (fsB v1 v2 v3))) t = some (.ins DT dx (fsT b w2 w3)) := by rw [upd_ne (Ne.symm ne)]; exact hi
  refine ⟨.ref t, rfl, t, DT, dx, fsT b w2 w3, w3, rfl, hi2, B.cls, B.nl, rfl, .ref t, rfl, t, DT, dx, fsT b w2 w3, .ref b, rfl, hi2, B.cls, B.nh, rfl, b, C, db, _, rfl, upd_same, BB.cls, BB.nl, putF_lt (by simp [fsB]), ?_⟩
  have f1 : Fr T [b] H (upd H b (.ins C db (putF "past" w2 (fsB v1 v2 v3)))) := Fr.upd ib trivial (by simp)
  have f2 : Fr T [b] H (upd (upd H b (.ins C db (putF "past" w2 (fsB v1 v2 v3)))) b (.ins C db (putF "later" w3 (putF "past" w2 (fsB v1 v2 v3))))) := f1.trans (Fr.upd upd_same trivial (by simp))
  exact kk _ f2 ⟨v1, w2, w3, ⟨db, upd_same⟩, dp_fr f2 (nl_hl hh) bk.h, dp_fr f2 (nl_tup (nls_dB _)) dp2, dp_fr f2 (nl_tup (nls_dB _)) dp3⟩
/-- __exit__ called at any time: an object p that no one tracks stands by -/
theorem run_exitH {g : Addr} {fd : FuncData} (BB : BookF K mg C) (B : TrialF K mg DT) (F : Fun K "__exit__" "Trial.__exit__" s_Trial___exit g fd) {A : Around} {outer : List Env} {s : Shared} {H : Hp} {args : Args} {us : List Value} {vs : List V} {Q : VK} {E : XK} {p : Addr × Obj}
    (hr : L2H.RoomH 1 A) (hpin : L2H.PinOk outer H s p) (e0 : Env0 P w K mg base A outer s H) (hb : BindsTo s fd args ((["self", "kind", "told", "trace"] : List Str).zip us)) (r : Vals vs us) (hsp : spExit K T C DT vs H Q E) :
    codeAny (model P w) A (.call (.ref g) args) (CR CX0 outer P w H s Q E) s := by
  obtain ⟨oc, od, kV, doc, pm, an, cdv, ct, osl, rfl, lk, hcd⟩ := F.ex
  have S : FnScope n_Trial___exit ["self", "kind", "told", "trace"] (defScope s_Trial___exit) := sc_Trial___exit
  have hl : vs.length = (["self", "kind", "told", "trace"] : List Str).length := by obtain ⟨_, _, _, _, _, _, _, _, rfl, _⟩ := hsp; rfl
  have KX : K.In s.heap := e0.mod.kin.keeps fun b o e => (e0.bs b o e).1
  have lim : s.heap.NoLimit := e0.mod.nolimit.keeps fun b o e => (e0.bs b o e).1
  have hkind : ∀ y ∈ (["self", "kind", "told", "trace"] : List Str).zip us, (defScope s_Trial___exit).names.lookup y.1 = some .local ∨ ((defScope s_Trial___exit).names.lookup y.1 = some .cell ∧ ((cellsFrom (s.heap.objs.size + 1) (defScope s_Trial___exit).names []).lookup y.1).isSome = true) := fun ⟨n, v⟩ hy => by
    rcases S.par n (List.of_mem_zip hy).1 with q | q
    · exact .inl q
    · exact .inr ⟨q, PySem.W.cellsFrom_some _ _ _ (.inl q)⟩
  refine codeAny_call_function hr.depth (KX _ _ lk) rfl S.co S.gen rfl (PySem.W.codeRec_of KX hcd) (hb _ _ _ _ ?_)
  refine wpAny_newFunctionEnv_cells S.kind hkind fun env he s1 x => ?_
  subst he
  refine ⟨lim.keeps x.toInCall.keep, codeAny_func ?_⟩
  obtain ⟨t, ht, hq⟩ := exit_body (X := L2H.cxH CX0 P w K mg base n_Trial___exit "Trial.__exit__" (defScope s_Trial___exit) g cdv A outer s H E p) rfl rfl rfl BB B hsp
  have I : Inv (L2H.cxH CX0 P w K mg base n_Trial___exit "Trial.__exit__" (defScope s_Trial___exit) g cdv A outer s H E p) [] (L2.start n_Trial___exit vs) H s1 := L2H.inv_startH S hpin e0 hl r x
  refine wpAny_mono (ht.run [] s1 (L2.start n_Trial___exit vs) H _ I hq) (fun fl s' hs => ?_) fun e s' hs => hs
  have fin : ∀ {σ' : L2.St} {H' : Hp} {v : V} {u : Value}, Inv (L2H.cxH CX0 P w K mg base n_Trial___exit "Trial.__exit__" (defScope s_Trial___exit) g cdv A outer s H E p) [] σ' H' s' → RelV v u → Q v H' → CE outer P w H s Q u s' :=
    fun {σ' H' v u} J rv q => ⟨v, H', J.os, J.bare, J.base, J.hok, rv, q⟩
  cases fl with
  | ret u =>
    obtain ⟨v, σ', H', J, rv, q⟩ := hs
    exact fin J rv q
  | next =>
    obtain ⟨σ', H', J, q⟩ := hs
    exact fin (v := V.non) (u := Value.none) J rfl q
  | brk =>
    obtain ⟨_, _, _, q⟩ := hs
    exact False.elim q
  | cont =>
    obtain ⟨_, _, _, q⟩ := hs
    exact False.elim q
end
section
variable {X : Cx} {pins : List (Addr × Obj)} {σ : L2.St} {H H5 : Hp} {sI s3 s5 : Shared} {B : Heap} {a : Addr} {Z : Obj → Prop}
/-- an exception on the ground, behind a call that changed what is tracked -/
theorem fly_on (J : Inv X pins σ H sI) (nb : ∀ b o, sI.heap.get? b = some o → b ∉ frs X.stack → B.get? b = some o) (up : sI.heap.UpToSlots s3.heap) (fl : HandSPX.FlyingZ B X.stack a Z s3.heap) (na : H a = none) (os : s3.os = sI.os) (ag : AllBare s3.gens)
    (un : Un (frs X.stack) [] H H5 s3.heap s5.heap) (hok : HOk X.prog X.w H5 s5.heap) (os5 : s5.os = s3.os) (ag5 : AllBare s5.gens) :
    ∃ (B' G : Heap), Inv X pins σ H5 { s5 with heap := G } ∧ (∀ b o, G.get? b = some o → b ∉ frs X.stack → B'.get? b = some o) ∧ G.UpToSlots s5.heap ∧ HandSPX.FlyingZ B' X.stack a Z s5.heap ∧ H5 a = none := by
  obtain ⟨fB, fn, ff, oe, vs, Tr, oT, ts, he, hz, hd, h1, hnT, hTe, hT, hdT, h3⟩ := fl
  have J3 : Inv X pins σ H s3 := J.landed nb fB up os ag
  have nfr : ∀ {b : Addr} {o : Obj} {vs : Array Value}, s3.heap.get? b = some o → o.data = .fields vs → b ∉ frs X.stack := fun {b o vs} e d hm => by
    obtain ⟨_, o', e', hnf⟩ := ff.mem hm
    rw [e] at e'; cases e'
    exact hnf _ d
  have afr := nfr he hd
  have Tfr := nfr hT hdT
  have nT : H Tr = none := (J.inGround nb).gone hnT
  have J5 : Inv X pins σ H5 s5 := J3.call' (ch := []) os5 un hok ag5 (fun b z => nomatch z)
  obtain ⟨G, g1, g2⟩ := restrict s5.heap fun b => decide (b ≠ a) && decide (b ≠ Tr)
  have gk : ∀ {b}, b ≠ a → b ≠ Tr → G.get? b = s5.heap.get? b := fun {b} p q => g1 b (by simp [p, q])
  have ga : G.get? a = none := g2 a (by simp)
  have gT : G.get? Tr = none := g2 Tr (by simp)
  have gs : ∀ b o, G.get? b = some o → s5.heap.get? b = some o ∧ b ≠ a ∧ b ≠ Tr := fun b o e => by
    have p : b ≠ a := fun z => by rw [z, ga] at e; cases e
    have q : b ≠ Tr := fun z => by rw [z, gT] at e; cases e
    exact ⟨(gk p q).symm.trans e, p, q⟩
  have sa : ∀ {b o}, sI.heap.get? b = some o → b ∉ frs X.stack → b ≠ a ∧ b ≠ Tr := fun {b o} e hb => ⟨fun z => (by rw [z] at e hb; rw [nb _ _ e hb] at fn; cases fn), fun z => (by rw [z] at e hb; rw [nb _ _ e hb] at hnT; cases hnT)⟩
  have sf : ∀ {b}, b ∈ frs X.stack → b ≠ a ∧ b ≠ Tr := fun {b} hb => ⟨fun z => afr (z ▸ hb), fun z => Tfr (z ▸ hb)⟩
  have sn : ∀ {b o}, sI.heap.get? b = some o → b ≠ a ∧ b ≠ Tr := fun {b o} e => by
    by_cases hb : b ∈ frs X.stack
    · exact sf hb
    · exact sa e hb
  have nf : ∀ b ∈ frs X.stack, ∀ o, sI.heap.get? b = some o → ∃ sl, s3.heap.get? b = some { o with slots := sl } := fun b hb o e => by
    obtain ⟨_, o', e', hd⟩ := J.stack.mem hb
    rw [e] at e'; cases e'
    exact up b o e hd
  have h5a : H5 a = none := un.free a oe he na (by simp)
  have h5T : H5 Tr = none := un.free Tr oT hT nT (by simp)
  have U : Un (frs X.stack) [] H H5 sI.heap G := {
    keep := fun b o e n hb hx => by
      rw [gk (sn e).1 (sn e).2]
      exact un.keep b o (fB b o (nb b o e hb)) n hb hx
    slot := fun b o e n hb hx => by
      obtain ⟨sl, q⟩ := nf b hb o e
      obtain ⟨sl2, q2⟩ := un.slot b _ q n hb hx
      exact ⟨sl2, by rw [gk (sn e).1 (sn e).2]; exact q2⟩
    free := fun b o e n hx => by
      by_cases hb : b ∈ frs X.stack
      · obtain ⟨sl, q⟩ := nf b hb o e
        exact un.free b _ q n hx
      · exact un.free b o (fB b o (nb b o e hb)) n hx
    there := fun b o e hx => by
      rw [gk (sn e).1 (sn e).2]
      by_cases hb : b ∈ frs X.stack
      · obtain ⟨sl, q⟩ := nf b hb o e
        exact un.there b _ q hx
      · exact un.there b o (fB b o (nb b o e hb)) hx
    tups := un.tups
    frzs := un.frzs
    tbls := un.tbls }
  have hokG : HOk X.prog X.w H5 G := fun b o q => (hok b o q).stay (fun c u hc z => by
      have p : c ≠ a := fun y => by
        rcases hc with hc | hc
        · rw [← hc, y, h5a] at q; cases q
        · rw [y, h5a] at hc; cases hc
      have p2 : c ≠ Tr := fun y => by
        rcases hc with hc | hc
        · rw [← hc, y, h5T] at q; cases q
        · rw [y, h5T] at hc; cases hc
      rw [gk p p2]
      exact z) (fun _ z => z) fun _ _ z => z
  have JG : Inv X pins σ H5 { s5 with heap := G } := J.call' (s' := { s5 with heap := G }) (ch := []) (os5.trans os) U hokG ag5 (fun b z => nomatch z)
  refine ⟨PySem.W.hideAll G (frs X.stack), G, JG, fun b o e hb => PySem.W.hideAll_get _ e hb, Heap.UpToSlots.of_keeps fun b o e => (gs b o e).1, ⟨fun b o e => (gs b o (PySem.W.of_hideAll _ e)).1, ?_, funFrames_none J5.stack fun b hb => PySem.W.hideAll_none _ hb, oe, vs, Tr, oT, ts, un.keep a oe he na afr (by simp), hz, hd, h1, ?_, hTe, un.keep Tr oT hT nT Tfr (by simp), hdT, h3⟩, h5a⟩
  · cases q : (PySem.W.hideAll G (frs X.stack)).get? a with
    | none => rfl
    | some o => rw [PySem.W.of_hideAll _ q] at ga; cases ga
  · cases q : (PySem.W.hideAll G (frs X.stack)).get? Tr with
    | none => rfl
    | some o => rw [PySem.W.of_hideAll _ q] at gT; cases gT
end
section
variable {P : Program} {w : World} {K : PySem.W.Frag} {mg : Str → Option Value} {base : Heap} {k : Nat} {T : List (Addr × Str)} {C DT : Addr}
variable {X : Cx} {ctx : Expr} {pos py : Pos} {bd : List Stmt} {Wout : WX}
/-- what the block's exception must do for Trial.__exit__ -/
def wExit (K : PySem.W.Frag) (T : List (Addr × Str)) (C D x : Addr) (Wout : WX) : WX := fun cls d σ H => ∃ Cc : Addr, cls = .ref Cc ∧ ∀ va vt : V, spExit K T C D [.ref x, .ref Cc, va, vt] H (fun v H3 => v = .non ∧ Wout cls d σ H3) E0
/-- with e as y: .., e a trial; the block may raise -/
def tWithX (K : PySem.W.Frag) (T : List (Addr × Str)) (C D : Addr) (i : Nat) (spE : Sp) (te : TE) (tb : WX → TS) (Wout : WX) : TS := fun Dn σ H => te σ H fun v H1 => ∃ x fs, v = .ref x ∧ IsI D x fs H1 ∧
  spE [.ref x] H1 (fun u H2 => tb (wExit K T C D x Wout) { nx := fun σ' H' => spExit K T C D [.ref x, .non, .non, .non] H' (fun _ H3 => Dn.nx σ' H3) E0, rt := fun r H' => spExit K T C D [.ref x, .non, .non, .non] H' (fun _ H3 => Dn.rt r H3) E0 } (σ.set i (some u)) H2) E0
theorem ps_withX {fe fx : Addr} {fdE fdX : FuncData} {psE : List Str} {spE : Sp} {i : Nat} {y : Str} {te : TE} {tb : WX → TS} (hX : In P w K mg base k X) (hk : 1 ≤ k) (hs : X.stack = X.env :: X.outer) (hfr : X.env.frame = some X.env.locals) (tk : Takes X Wout) (BB : BookF K mg C) (BT : TrialF K mg DT)
    (hi : X.N[i]? = some y) (hl : Loc X.env.scope y) (FE : FnOk P w K mg base CX0 1 fe fdE psE spE) (bE : Binds K fdE psE [])
    (FX : Fun K "__exit__" "Trial.__exit__" s_Trial___exit fx fdX) (bX : Binds K fdX ["self", "kind", "told", "trace"] [])
    (he : PySem.W.findIn K (.ref DT) "__enter__" = some (some (.ref fe))) (hfe : PySem.W.isFn K (.ref fe) = true) (hx : PySem.W.findIn K (.ref DT) "__exit__" = some (some (.ref fx))) (hfx : PySem.W.isFn K (.ref fx) = true)
    (hc : PE X ctx te) (hb : ∀ (W : WX) (pn : List (Addr × Obj)) (xe : Value → Shared → Prop), Takes (X.tr pn xe) W → PassesOwn (model X.prog X.w) X.A X.env xe → PSs (X.tr pn xe) bd (tb W)) (hf : X.fn y = true ∨ X.env.scope.names.lookup y = some .local) :
    PS X (.With [⟨ctx, some (.Name y py)⟩] bd pos) (tWithX K T C DT i spE te tb Wout) := by
  obtain ⟨rfl, rfl, rfl, rfl, rfl, hcalm, room, nd⟩ := hX
  refine ⟨fun pins s σ H D I h => ?_⟩
  have ok := I.ok
  have frs' : X.A.frames = some (X.env :: X.outer) := by rw [ok.frames, hs]
  refine PySem.W.kw_execN (thn (hc.run pins s σ H _ I h) fun v s1 ⟨z, H1, I1, r1, x, fs, ez, ⟨dx, hd⟩, q1⟩ => ?_)
  subst ez
  cases (show v = Value.ref x from r1)
  obtain ⟨mA, O, _⟩ := ins_get I1.hok hd
  obtain ⟨od, J, _⟩ := O.look
  unfold PySem.W.KwIn
  refine BQ.kw_coreX (b := assign (.Name y py) X.env) (ER := fun e s₄ => wpAny (model X.prog X.w) X.A (noteFrame e X.env) (fun _ s₅ => wpAny (model X.prog X.w) X.A (setFlight e none) (fun _ s₆ => wpAny (model X.prog X.w) X.A (typeOf e) (fun cls s₇ => wpAny (model X.prog X.w) X.A (tracebackOf e) (fun tb s₈ =>
      wpAny (model X.prog X.w) X.A (run (.call (.ref fx) ⟨[.ref x, cls, e, tb], []⟩) (some e)) (fun r s₉ => r = .ret .none ∧ wpAny (model X.prog X.w) X.A (passOn "with" e X.env) (SP X pins D) X.xe s₉) (fun _ _ => False) s₈) (fun _ _ => False) s₇) (fun _ _ => False) s₆) (fun _ _ => False) s₅) (fun _ _ => False) s₄) I1.kIn J he hfe hx hfx (fun e s₄ he => he) ?_
  refine thn (run_inst (us := [.ref x]) (vs := [.ref x]) FE (room.mono hk) bE I1 (.cons rfl .nil) q1) fun u s2 ⟨u', H2, I2, r2, q2⟩ => ?_
  refine wpAny_assign_Name (store_ok I2 nd hi hl r2 (fun s3 I3 => ?_) hf)
  refine wpAny_mono ((hb (wExit X.K T C DT x Wout) (X.pn ++ pins) _ (fun u s' xx => ?_) PassesOwn.looking).run [] s3 _ H2 _ (I3.toTry _) q2) (fun f s4 q => ?_) fun _ _ z => z
  · obtain ⟨a, B, sI, pins', σ', H', cls, d, rfl, J', nb, up, sky, na, os, ag, Cc, rfl, hw⟩ := xx
    have J : Inv X pins σ' H' sI := J'.ofTry ok
    have sky' : Sky B (X.env :: X.outer) a (Zc (.ref Cc) d) X.env.locals s'.heap := hs ▸ sky
    show wpAny (model X.prog X.w) X.A (noteFrame (.ref a) X.env) _ _ _
    refine Sky.land Zc.steady frs' hfr sky' fun h3 fl3 up3 => ?_
    have J3 : Inv X pins σ' H' { s' with heap := h3 } := J.landed nb fl3.1 (up.trans up3) os ag
    obtain ⟨k1, k2, k3, oe, vs, Tr, oT, ts, he3, hz3, hd3, h13, hnT, hTe, hT, hdT, h33⟩ := id fl3
    have nfr : a ∉ frs X.stack := fun hm => by
      rw [hs] at hm
      obtain ⟨_, o', e', hnf⟩ := k3.mem hm
      rw [he3] at e'; cases e'
      exact hnf _ hd3
    refine wpAny_typeOf_ref he3 ?_
    rw [hz3.1]
    have go : ∀ (tb : Value) (vt : V), RelV vt tb → wpAny (model X.prog X.w) X.A (run (.call (.ref fx) ⟨[.ref x, .ref Cc, .ref a, tb], []⟩) (some (.ref a))) (fun r s₉ => r = .ret .none ∧ wpAny (model X.prog X.w) X.A (passOn "with" (.ref a) X.env) (SP X pins D) X.xe s₉) (fun _ _ => False) { s' with heap := h3 } := fun tb vt rt => by
      have hbX := bX { s' with heap := h3 } [.ref x, .ref Cc, .ref a, tb] J3.kIn rfl
      rw [List.append_nil] at hbX
      refine wpAny_run (codeAny_mono (run_exitH (P := X.prog) (w := X.w) (K := X.K) (mg := X.mg) (base := X.base) (outer := X.stack) (s := { s' with heap := h3 }) (H := H') (us := [.ref x, .ref Cc, .ref a, tb]) (vs := [.ref x, .ref Cc, .ref a, vt]) (p := (a, oe)) BB BT FX ⟨(room.mono hk).dp, (room.mono hk).un⟩ ⟨he3, na, nfr, fun v z => by rw [hd3] at z; cases z⟩ ⟨J3.env0.frames, J3.env0.mod, J3.env0.bs, J3.env0.bsz, J3.env0.funs, J3.env0.frf, J3.env0.hok, J3.env0.bare⟩ hbX (.cons rfl (.cons rfl (.cons rfl (.cons rt .nil)))) (hw (.ref a) vt)) fun r s5 hq => ?_) (by intro z; cases z)
      cases r with
      | error e => exact False.elim hq
      | ok fl =>
        cases fl with
        | ret u =>
          obtain ⟨v, H5, os5, ag5, un5, hok5, rv, ev, q5⟩ := hq
          subst ev
          cases (show u = Value.none from rv)
          refine ⟨rfl, ?_⟩
          obtain ⟨B', G, JG, nbG, upG, flG, na5⟩ := fly_on (s3 := { s' with heap := h3 }) J nb (up.trans up3) (hs.symm ▸ fl3) na os ag un5 hok5 os5 ag5
          obtain ⟨_, _, _, oe5, vs5, T5, oT5, ts5, he5, hz5, hd5, h15, _⟩ := id flG
          unfold PySem.passOn
          refine wpAny_bind (wpAny_field he5 hd5 h15 ?_)
          rw [if_neg (show ¬ ((Value.ref T5 == Value.none) = true) from by simp)]
          have fin : wpAny (model X.prog X.w) X.A (setFlight (.ref a) X.env.frame) (fun _ s4 => wpAny (model X.prog X.w) X.A (throw (.ref a) : Sem Flow) (SP X pins D) X.xe s4) X.xe s5 := by
            rw [hfr]
            refine HandSPX.setFlight_upZ flG fun h4 hh4 up4 => wpAny_throw (tk _ _ ?_)
            exact ⟨a, B', { s5 with heap := G }, pins, σ', H5, .ref Cc, d, rfl, JG, nbG, upG.trans up4, .inr (.inr hh4), na5, rfl, ag5, q5⟩
          first
            | exact wpAny_bind (wpAny_pure (wpAny_bind fin))
            | exact wpAny_bind fin
        | next => exact False.elim hq
        | brk => exact False.elim hq
        | cont => exact False.elim hq
    unfold tracebackOf
    refine wpAny_bind (wpAny_field he3 hd3 h13 ?_)
    obtain ⟨x1, hx1⟩ : ∃ x1, ts[1]? = some x1 := by
      have := (Array.getElem?_eq_some_iff.mp h33).1
      exact ⟨ts[1], Array.getElem?_eq_getElem (by omega)⟩
    dsimp only
    refine wpAny_bind (wpAny_field hT hdT hx1 ?_)
    by_cases e1 : (x1 == Value.none) = true
    · rw [if_pos e1]
      exact wpAny_pure (go .none .non rfl)
    · rw [if_neg e1]
      exact wpAny_pure (go (.ref Tr) (.ref Tr) rfl)
  · have ex : ∀ {σ4 : L2.St} {H4 : Hp} {Q : Hp → Prop} {G : Value → Shared → Prop}, Inv X pins σ4 H4 s4 → spExit X.K T C DT [.ref x, .non, .non, .non] H4 (fun _ H5 => Q H5) E0 → (∀ H5 s5 u, Inv X pins σ4 H5 s5 → Q H5 → G u s5) →
        wpAny (model X.prog X.w) X.A (call (.ref fx) [.ref x, .none, .none, .none]) G X.xe s4 := fun {σ4 H4 Q G} I4 q4 kk =>
      thn (run_inst (us := [.ref x, .none, .none, .none]) (vs := [.ref x, .non, .non, .non]) (f_texit (T := T) BB BT FX) (room.mono hk) bX I4 (.cons rfl (.cons rfl (.cons rfl (.cons rfl .nil)))) q4) fun u5 s5 ⟨_, H5, I5, _, q5⟩ => kk H5 s5 u5 I5 q5
    cases f with
    | next =>
      obtain ⟨σ4, H4, I4, q4⟩ := q
      exact ex (I4.ofTry ok) q4 fun H5 s5 u I5 q5 => ⟨σ4, H5, I5, q5⟩
    | ret r =>
      obtain ⟨v4, σ4, H4, I4, r4, q4⟩ := q
      exact ex (I4.ofTry ok) q4 fun H5 s5 u I5 q5 => ⟨v4, σ4, H5, I5, r4, q5⟩
    | brk =>
      obtain ⟨_, _, _, z⟩ := q
      exact z.elim
    | cont =>
      obtain ⟨_, _, _, z⟩ := q
      exact z.elim
end
end BL
end

section
set_option Elab.async false
set_option linter.all false
set_option maxRecDepth 100000
set_option maxHeartbeats 4000000
/-! BMu: under(e, lambda y: ..), whose block raises. -/
namespace BL
open PySem PySem.Spec PyProof.Rows L2
section
variable {P : Program} {w : World} {K : PySem.W.Frag} {mg : Str → Option Value} {base : Heap} {k : Nat} {T : List (Addr × Str)}
variable {X Y : Cx} {Γ : Gm} {Φ : MP} {e : Expr} {σ : L2.St} {H : Hp} {C DT : Addr} {pr : Option (Nat × Str)} {W : WX}
/-- a lambda's body that may raise: what is wished of that -/
def teLX (P : Program) (w : World) (K : PySem.W.Frag) (mg : Str → Option Value) (base : Heap) (k : Nat) (N : List Str) (scope : Scope) (body : Expr) (E : XK) : TE := fun σ H Q => ∀ Y, LamB P w K mg base k N scope Y → Takes Y (fun cls d _ H => E cls d H) → tE Y body σ H Q
theorem teLX_pe {scope : Scope} {body : Expr} {E : XK} {f c' : Addr} (hX : In P w K mg base 0 X) (A : Around) (outer : List Env) (s : Shared) (H : Hp) (g : A.guards = some []) (r : Room k (A.deeper (LamX.lamEnv X scope s.heap.objs.size f c'))) : PE (LamX.lamCx X A outer s H E scope f c') body (teLX P w K mg base k X.N scope body E) :=
  ⟨fun pins s' σ' H' Q I h => (h (LamX.lamCx X A outer s H E scope f c') ⟨⟨hX.prog, hX.w, hX.K, hX.mg, hX.base, rfl, r, hX.nd⟩, g, rfl, rfl⟩ (takes_of rfl rfl rfl rfl)).run pins s' I⟩
/-- what under makes of a trial and of a block that raises (tl) -/
def UndX (K : PySem.W.Frag) (T : List (Addr × Str)) (C D : Addr) (tl : V → Hp → XK → Prop) (v1 : V) (H : Hp) (E : XK) : Prop := ∃ (t b : Addr) (h : Hl) (st : Stt), v1 = .ref t ∧ TrEx D t b H ∧ BkAt K C b h st H ∧ b ≠ t ∧
  ∀ H1, Fr T [t] H H1 → TrAt K D t b st H1 → BkAt K C b h st H1 → ∀ E1 : XK, (∀ cls d H2, (∃ Cc : Addr, cls = .ref Cc) → (∃ st', TrAt K D t b st H2 ∧ BkAt K C b h st' H2 ∧ ∀ H3, Fr T [b] H2 H3 → BkAt K C b h st H3 → E cls d H3) → E1 cls d H2) → tl (.ref b) H1 E1
theorem te_underX {e1 : Expr} {params : Arguments} {body : Expr} {scope : Scope} {p lpos pos : Pos} {c Pt : Addr} {j : Nat} {y : Str} {Q : VK} {m : Nat} (hX : In P w K mg base k X) (hgd : X.A.guards = some []) (BB : BookF K mg C) (BT : TrialF K mg DT) (F : FnF K mg "under" s_under ["manager", "deed"]) (g : GlAt X "under") (M : LamM T X c Pt) (hk : m + 4 ≤ k)
    (L : LamP X.N X.env.scope scope (some (j, y))) (hdef : defaultsOf params X.env = ([], [])) (tk : Takes X W)
    (hbind : ∀ (q : Str) (cl : List (Str × Addr)) (pm cv ctv u : Value), bindArgs (PySem.W.kla_fn "<lambda>" q params body scope cl pm cv ctv) ⟨[u], []⟩ = pure [(y, u)])
    (h : tE X e1 σ H fun v1 H1 => LamX.Tabs T H1 ∧ ∀ H2, LamX.ExtN H1 H2 → LamX.Tabs T H2 → UndX K T C DT (fun v H' E' => teLX P w K mg base m X.N scope body E' (σ.set j (some v)) H' fun _ _ => False) v1 H2 fun cls d H' => W cls d σ H')
    (he : starEach [e1, .Lambda params body scope lpos] X.env = (false, eval e1 X.env) :: starEach [.Lambda params body scope lpos] X.env := by rfl) :
    tE X (.Call (.Name "under" p) [e1, .Lambda params body scope lpos] [] pos) σ H Q := by
  obtain ⟨gu, fd, Fu, hb, hm⟩ := F
  have hb' : L2.Binds X.K fd ["manager", "deed"] [] := by rw [hX.K]; exact hb
  obtain ⟨oc, od, kV, doc, pm, an, cdv, ct, osl, rfl, lk, hcd⟩ := Fu.ex
  refine ⟨fun pins s I => ?_⟩
  refine wpAny_Call_Name_kw (ld_glob I g.1 (by rw [hX.mg]; exact hm) ?_ g.2.1)
  refine PySem.W.callWith_K (h₀ := X.base) I.ok.mod.kin (by rw [hX.K]; exact Fu.kp) ?_ he (by rfl)
  rw [he]
  refine Calls.spliced_cons (thn (h.run pins s I) fun u1 s1 ⟨v1, H1, I1, r1, hT, hu⟩ => ?_)
  refine Calls.spliced_cons (LamX.lam_make2 I1 M.tb M.code M.mem M.uni hT hdef (L.has I1.ok) fun f c' pm' ctv H2 s2 I2 eN T2 hf hfn hfr hco => ?_)
  refine Calls.spliced_nil ⟨I2.kIn, ?_⟩
  have hr : Room (m + 4) X.A := hX.room.mono hk
  have rc : codeAny (model X.prog X.w) X.A (.call (.ref gu) ⟨[u1, .ref f], []⟩) (CR (L2.CX X.prog X.w) X.stack X.prog X.w H2 s2 Q fun cls d H' => W cls d σ H') s2 := by
    refine LamX.run_ofS (k := m + 3) (N := n_under) (ps := ["manager", "deed"]) (us := [u1, .ref f]) (vs := [v1, .ref f]) (by rw [hX.K]; exact lk) (by rw [hX.K]; exact hcd) sc_under hr I2.env0 (by simpa using hb' s2 [u1, .ref f] I2.kIn rfl) (.cons r1 (.cons rfl .nil)) rfl fun hr' => ?_
    refine ⟨_, pb_sem (X := cxOf (L2.CX X.prog X.w) X.prog X.w X.K X.mg X.base n_under "under" (defScope s_under) gu cdv X.A X.stack s2 H2 fun cls d H' => W cls d σ H'), ?_⟩
    have hZ : In P w K mg base (m + 3) (cxOf (L2.CX X.prog X.w) X.prog X.w X.K X.mg X.base n_under "under" (defScope s_under) gu cdv X.A X.stack s2 H2 fun cls d H' => W cls d σ H') := ⟨hX.prog, hX.w, hX.K, hX.mg, hX.base, rfl, hr', sc_under.nd⟩
    have hn : Nm n_under (defScope s_under) (cxOf (L2.CX X.prog X.w) X.prog X.w X.K X.mg X.base n_under "under" (defScope s_under) gu cdv X.A X.stack s2 H2 fun cls d H' => W cls d σ H') := ⟨rfl, rfl, fun _ => rfl, passes_of rfl⟩
    have tkZ : Takes (cxOf (L2.CX X.prog X.w) X.prog X.w X.K X.mg X.base n_under "under" (defScope s_under) gu cdv X.A X.stack s2 H2 fun cls d H' => W cls d σ H') (fun cls d _ H' => W cls d σ H') := takes_of rfl rfl rfl rfl
    have act : ∀ (p1 p2 p3 : Pos) (Wz : WX) (pn : List (Addr × Obj)) (xe : Value → Shared → Prop), Takes (((cxOf (L2.CX X.prog X.w) X.prog X.w X.K X.mg X.base n_under "under" (defScope s_under) gu cdv X.A X.stack s2 H2 fun cls d H' => W cls d σ H')).tr pn xe) Wz → PE (((cxOf (L2.CX X.prog X.w) X.prog X.w X.K X.mg X.base n_under "under" (defScope s_under) gu cdv X.A X.stack s2 H2 fun cls d H' => W cls d σ H')).tr pn xe) (.Call (.Name "deed" p1) [.Name "given" p2] [] p3)
        (fun σZ HZ Q => σZ[1]? = some (some (.ref f)) ∧ HZ c' = some (LamX.CodeO c' (X.env.qual ++ "<lambda>")) ∧ ∃ v, σZ[2]? = some (some v) ∧ teLX P w K mg base m X.N scope body (fun cls d H' => Wz cls d σZ H') (σ.set j (some v)) HZ Q) := fun p1 p2 p3 Wz pn xe tkW => by
      refine ⟨fun pz sZ σZ HZ Q IZ ⟨hs, hc, v, hv, ht⟩ => ?_⟩
      refine wpAny_Call_Name_kw (thn ((pe_var (pos := p1) (i := 1) rfl (.inl rfl) (by decide) (by decide)).run pz sZ σZ HZ (fun v H1 => v = .ref f ∧ H1 = HZ) IZ ⟨.ref f, hs, rfl, rfl⟩) fun u sA ⟨v', HA, IA, rA, qA⟩ => ?_)
      obtain ⟨rfl, rfl⟩ := qA
      cases (show u = Value.ref f from rA)
      have atF : ∀ {s' : Shared} {H' : Hp} {σ' : L2.St}, Inv (((cxOf (L2.CX X.prog X.w) X.prog X.w X.K X.mg X.base n_under "under" (defScope s_under) gu cdv X.A X.stack s2 H2 fun cls d H' => W cls d σ H')).tr pn xe) pz σ' H' s' → PySem.W.FnAt f s'.heap := fun {s' H' σ'} J => ⟨_, _, _, _, J.base.keep f _ hf hfn hfr (fun z => nomatch (show f ∈ ([] : List Addr) from z))⟩
      refine PySem.W.callWith_F (first := []) (atF IA) (thn ((pa_cons (pe_var (pos := p2) (i := 2) rfl (.inl rfl) (by decide) (by decide)) pa_nil).run p3 pz sA σZ _ (fun vs H1 => vs = [v] ∧ H1 = _) IA ⟨v, hv, rfl, rfl⟩) fun us sB ⟨vs, HB, IB, rB, qB⟩ => ⟨atF IB, ?_⟩)
      obtain ⟨rfl, rfl⟩ := qB
      cases rB with
      | @cons _ u0 _ ur r0 rn =>
        cases rn
        exact lam_runG (pr := some (j, y)) (k := m) (E := fun cls d H' => Wz cls d σZ H') (tb := teLX P w K mg base m X.N scope body fun cls d H' => Wz cls d σZ H') I2 hX.nd L hgd hf hfn hfr (fun u => hbind _ _ _ _ _ u) (fun e s' hq => tkW e s' (XE.of_call IB (fun cls d H' h => h) hq)) (hr'.mono (by omega)) (fun A outer s H g r => teLX_pe (hX.mono (Nat.zero_le _)) A outer s H g r) IB hc r0 ht
    obtain ⟨t, b, h, st, rfl, tr, bk, ne, kk⟩ := hu H2 eN T2
    obtain ⟨fe, fdE, e1', e2', e3', e4'⟩ := BT.enter
    obtain ⟨fx, fdX, x1', x2', x3', x4'⟩ := BT.exit
    have Vr := fun (j : Nat) {i : Nat} {x : Str} e => (tab_loc tb_under hn (i := i) (x := x) j e).1
    have s0 : Slots K (L2.start n_under [.ref t, .ref f]) H2 (startS n_under [.r (.ref t), .r (.ref f)]) := startS_slots (.cons rfl (.cons rfl .nil))
    refine tb_cons (PSto (ps_withX (T := T) (C := C) (DT := DT) (i := 2) (spE := spEnter K T C DT) (psE := ["self"]) hZ (by omega) rfl rfl tkZ BB BT rfl (.inl rfl) (f_tenter BB BT e3') e4' x3' x4' e1' e2' x1' x2' pe_sem (fun Wz pn xe tkW _ => pss_one (ps_set (i := 3) hZ.nd rfl (.inl rfl) (act _ _ _ Wz pn xe tkW) rfl (.inl rfl))) (.inl rfl)) ?_)
    refine Ev.goT (ev_var (Vr 0 rfl) rfl) s0 fun v H3 e3 d3 => ?_
    cases (show v = V.ref t from d3)
    obtain ⟨w2, w3, it⟩ := tr.fr (Fr.same (T := T) (S := []) e3) (by simp)
    refine ⟨t, fsT b w2 w3, rfl, it, t, b, h, st, rfl, ⟨w2, w3, it⟩, bk.up e3, ne, fun H4 f4 tr4 => ?_⟩
    have ff : Fr T [t] H2 H4 := (Fr.same e3).trans f4
    have ntc : c' ∉ [t] := fun z => by
      rw [List.mem_singleton] at z
      obtain ⟨_, _, dx, i⟩ := tr
      rw [z, i] at hco
      cases hco
    refine ⟨rfl, ff.at hco ntc (LamX.codeO_ne), .ref b, rfl, fun Y hY tkY => tE_mono (kk H4 ff tr4 (bk.fr ff (by simp [ne])) _ (fun cls d H5 hC ⟨st', tr5, bk5, k5⟩ => ?_) Y hY tkY) fun v H5 z => z.elim⟩
    obtain ⟨Cc, rfl⟩ := hC
    exact ⟨Cc, rfl, fun va vt => ⟨t, b, h, st, st', .ref Cc, va, vt, rfl, tr5, bk5, ne, fun H6 f6 bk6 => ⟨rfl, k5 H6 f6 bk6⟩⟩⟩
  refine wpAny_call (codeAny_mono rc fun r s' hq => ?_)
  cases r with
  | error e => exact tk e s' (XE.of_call I2 (fun cls d H' h => h) hq)
  | ok fl =>
    cases fl with
    | ret u => exact I2.after hq
    | next => exact False.elim hq
    | brk => exact False.elim hq
    | cont => exact False.elim hq
end
end BL
end

section
set_option Elab.async false
set_option linter.all false
set_option maxRecDepth 100000
set_option maxHeartbeats 4000000
/-! BMv: _law_said(lambda: ..), which raises BadCall. -/
namespace BL
open PySem PySem.Spec PyProof.Rows L2
/-- the classes of the first clauses -/
structure SaidF (K : PySem.W.Frag) (mg : Str → Option Value) (B CH CRu : Addr) : Prop where
  hall : mg "BadHall" = some (.ref CH)
  rule : mg "BadRule" = some (.ref CRu)
  nh : PySem.W.exmOne K (.ref B) (.ref CH) = some false
  nr : PySem.W.exmOne K (.ref B) (.ref CRu) = some false
  yes : PySem.W.exmOne K (.ref B) (.ref B) = some true
section
variable {P : Program} {w : World} {K : PySem.W.Frag} {mg : Str → Option Value} {base : Heap} {k : Nat} {T : List (Addr × Str)}
variable {X Y : Cx} {Γ : Gm} {Φ : MP} {e : Expr} {σ : L2.St} {H : Hp} {C DT B CH CRu fI cc cda : Addr} {fdI : FuncData}
theorem te_saidX {params : Arguments} {body : Expr} {scope : Scope} {p lpos pos : Pos} {c Pt : Addr} {Q : VK} {m : Nat} (hX : In P w K mg base k X) (hgd : X.A.guards = some []) (BF : BadF P K mg B fI cc cda fdI) (SF : SaidF K mg B CH CRu) {n : Int} (F : FnF K mg "_law_said" s_l_said ["_law_call"]) (g : GlAt X "_law_said") (M : LamM T X c Pt) (hk : m + 4 ≤ k)
    (L : LamP X.N X.env.scope scope none) (hdef : defaultsOf params X.env = ([], []))
    (hbind : ∀ (q : Str) (cl : List (Str × Addr)) (pm cv ctv : Value), bindArgs (PySem.W.kla_fn "<lambda>" q params body scope cl pm cv ctv) ⟨[], []⟩ = pure [])
    (hT : LamX.Tabs T H) (h : ∀ H2, LamX.ExtN H H2 → LamX.Tabs T H2 → ∀ E1 : XK, BadX B n E1 H2 → teLX P w K mg base m X.N scope body E1 σ H2 fun _ _ => False) (h2 : ∀ v H4, LamX.ExtN H H4 → LamX.Tabs T H4 → Dp K H4 v (.tuple [.str "call", .int n]) → Q v H4)
    (he : starEach [.Lambda params body scope lpos] X.env = (false, eval (.Lambda params body scope lpos) X.env) :: starEach [] X.env := by rfl) :
    tE X (.Call (.Name "_law_said" p) [.Lambda params body scope lpos] [] pos) σ H Q := by
  obtain ⟨gu, fd, Fu, hb, hm⟩ := F
  have hb' : L2.Binds X.K fd ["_law_call"] [] := by rw [hX.K]; exact hb
  obtain ⟨oc, od, kV, doc, pm, an, cdv, ct, osl, rfl, lk, hcd⟩ := Fu.ex
  refine ⟨fun pins s I => ?_⟩
  refine wpAny_Call_Name_kw (ld_glob I g.1 (by rw [hX.mg]; exact hm) ?_ g.2.1)
  refine PySem.W.callWith_K (h₀ := X.base) I.ok.mod.kin (by rw [hX.K]; exact Fu.kp) ?_ he (by rfl)
  rw [he]
  refine Calls.spliced_cons (LamX.lam_make2 I M.tb M.code M.mem M.uni hT hdef (L.has I.ok) fun f c' pm' ctv H2 s2 I2 eN T2 hf hfn hfr hco => ?_)
  refine Calls.spliced_nil ⟨I2.kIn, ?_⟩
  have hr : Room (m + 4) X.A := hX.room.mono hk
  have rc : codeAny (model X.prog X.w) X.A (.call (.ref gu) ⟨[.ref f], []⟩) (CR CX0 X.stack X.prog X.w H2 s2 Q E0) s2 := by
    refine LamX.run_ofS (k := m + 3) (N := n_l_said) (ps := ["_law_call"]) (us := [.ref f]) (vs := [.ref f]) (by rw [hX.K]; exact lk) (by rw [hX.K]; exact hcd) sc_l_said hr I2.env0 (by simpa using hb' s2 [.ref f] I2.kIn rfl) (.cons rfl .nil) rfl fun hr' => ?_
    refine ⟨_, (pb_sem (X := (cxOf CX0 X.prog X.w X.K X.mg X.base n_l_said "_law_said" (defScope s_l_said) gu cdv X.A X.stack s2 H2 E0).tr [] fun _ _ => False)).nox, ?_⟩
    have hZ : In P w K mg base (m + 3) ((cxOf CX0 X.prog X.w X.K X.mg X.base n_l_said "_law_said" (defScope s_l_said) gu cdv X.A X.stack s2 H2 E0).tr [] fun _ _ => False) := ⟨hX.prog, hX.w, hX.K, hX.mg, hX.base, rfl, hr', sc_l_said.nd⟩
    have hn : Nm n_l_said (defScope s_l_said) ((cxOf CX0 X.prog X.w X.K X.mg X.base n_l_said "_law_said" (defScope s_l_said) gu cdv X.A X.stack s2 H2 E0).tr [] fun _ _ => False) := ⟨rfl, rfl, fun _ => rfl, PassesOwn.never⟩
    have act : ∀ (p1 p3 : Pos) (Wz : WX) (pn : List (Addr × Obj)) (xe : Value → Shared → Prop), Takes (((cxOf CX0 X.prog X.w X.K X.mg X.base n_l_said "_law_said" (defScope s_l_said) gu cdv X.A X.stack s2 H2 E0).tr [] fun _ _ => False).tr pn xe) Wz → PE (((cxOf CX0 X.prog X.w X.K X.mg X.base n_l_said "_law_said" (defScope s_l_said) gu cdv X.A X.stack s2 H2 E0).tr [] fun _ _ => False).tr pn xe) (.Call (.Name "_law_call" p1) [] [] p3)
        (fun σZ HZ Q => σZ[0]? = some (some (.ref f)) ∧ HZ c' = some (LamX.CodeO c' (X.env.qual ++ "<lambda>")) ∧ teLX P w K mg base m X.N scope body (fun cls d H' => Wz cls d σZ H') σ HZ Q) := fun p1 p3 Wz pn xe tkW => by
      refine ⟨fun pz sZ σZ HZ Q IZ ⟨hs, hc, ht⟩ => ?_⟩
      refine wpAny_Call_Name_kw (thn ((pe_var (pos := p1) (i := 0) rfl (.inl rfl) (by decide) (by decide)).run pz sZ σZ HZ (fun v H1 => v = .ref f ∧ H1 = HZ) IZ ⟨.ref f, hs, rfl, rfl⟩) fun u sA ⟨v', HA, IA, rA, qA⟩ => ?_)
      obtain ⟨rfl, rfl⟩ := qA
      cases (show u = Value.ref f from rA)
      have atF : PySem.W.FnAt f sA.heap := ⟨_, _, _, _, IA.base.keep f _ hf hfn hfr (fun z => nomatch (show f ∈ ([] : List Addr) from z))⟩
      refine PySem.W.callWith_F0 (first := []) atF ?_
      exact lam_runG (CXg := CX0) (Eg := E0) (pr := none) (v0 := .non) (u0 := .none) (k := m) (E := fun cls d H' => Wz cls d σZ H') (tb := teLX P w K mg base m X.N scope body fun cls d H' => Wz cls d σZ H') I2 hX.nd L hgd hf hfn hfr (fun u => hbind _ _ _ _ _) (fun e s' hq => tkW e s' (XE.of_call IA (fun cls d H' h => h) hq)) (hr'.mono (by omega)) (fun A outer s H g r => teLX_pe (hX.mono (Nat.zero_le _)) A outer s H g r) IA hc rfl ht
    have Vr := fun (j : Nat) {i : Nat} {x : Str} e => (tab_loc tb_l_said hn (i := i) (x := x) j e).1
    have Lc := fun (j : Nat) {i : Nat} {x : Str} e => (tab_loc tb_l_said hn (i := i) (x := x) j e).2
    refine tb_set hZ (Lc 1 rfl) (te_lst (ta_nil ⟨by simp, fun q0 hq0 => ?_⟩))
    have e3 : Same H2 (upd H2 q0 (.lst [])) := same_new hq0
    have G := fun (j : Nat) {x : Str} e => tab_glo tb_l_said hn (x := x) j e
    have nm : ∀ {x : Str} {c : Addr}, GlAt ((cxOf CX0 X.prog X.w X.K X.mg X.base n_l_said "_law_said" (defScope s_l_said) gu cdv X.A X.stack s2 H2 E0).tr [] fun _ _ => False) x → mg x = some (.ref c) → Names ((cxOf CX0 X.prog X.w X.K X.mg X.base n_l_said "_law_said" (defScope s_l_said) gu cdv X.A X.stack s2 H2 E0).tr [] fun _ _ => False) x (.ref c) := fun {x c} g e => ⟨g.1, g.2.1, .inl (show X.mg x = _ by rw [hX.mg]; exact e)⟩
    have xf : XfC X.K B := by rw [hX.K]; exact BF.xf
    have xp : PySem.W.findIn X.K (.ref B) "place" = some none := by rw [hX.K]; exact BF.noP
    refine tb_cons (PSto (ps_try_asM (X := ((cxOf CX0 X.prog X.w X.K X.mg X.base n_l_said "_law_said" (defScope s_l_said) gu cdv X.A X.stack s2 H2 E0).tr [] fun _ _ => False)) (i := 2) (c := .ref B) (l := [.ref CH, .ref CRu]) rfl rfl hZ.nd rfl rfl (fun Wz pn xe tkW _ => pss_one (ps_set (i := 1) hZ.nd rfl (.inl rfl) (pe_lst (pa_cons (act _ _ Wz pn xe tkW) pa_nil)) rfl (.inl rfl)))
      (.skip (nm (G 0 rfl) SF.hall) (.skip (nm (G 1 rfl) SF.rule) (.take (nm (G 2 rfl) BF.at_) fun a oe cls d pn hz hf' => pss_one (ps_set (i := 1) hZ.nd rfl (.inl rfl) (pe_tup (pa_cons pe_str (pa_cons (pe_xf xf xp hz hf' (pe_var (i := 2) rfl (.inl rfl) (by decide) (by decide)) rfl) pa_nil))) rfl (.inl rfl)))))) ?_)
    refine ⟨rfl, e3 _ _ hco, fun Y hY tkY => tE_mono (h _ (fun b o hb hn => e3 _ _ (eN b o hb hn)) (T2.ext e3) _ (fun d H5 e5 hd5 => ?_) Y hY tkY) fun v H5 z => z.elim⟩
    rw [show ((cxOf CX0 X.prog X.w X.K X.mg X.base n_l_said "_law_said" (defScope s_l_said) gu cdv X.A X.stack s2 H2 E0).tr [] fun _ _ => False).K = K from hX.K]
    refine ⟨fun c' hc' => ?_, SF.yes, fun a ha => ?_⟩
    · rcases List.mem_cons.mp hc' with rfl | hc'
      · exact SF.nh
      · rcases List.mem_cons.mp hc' with rfl | hc'
        · exact SF.nr
        · cases hc'
    · refine ⟨.ref a, rfl, rfl, rfl, d, [("place", .int n)], .int n, rfl, hd5, rfl, ?_⟩
      refine ⟨by rw [sizeLine_eq]; simp, fun p hp => ?_⟩
      have e6 : Same H5 (upd H5 p (.tup [.str "call", .int n])) := same_new hp
      have s7 : Slots K (L2.start n_l_said [V.ref f, V.ref p]) (upd H5 p (.tup [.str "call", .int n])) (startS n_l_said [.r (.ref f), .r (.ref p)]) := startS_slots (.cons rfl (.cons rfl .nil))
      refine tb_ret (K := K) (Φ := MP.top) (ev_var (Vr 1 rfl) rfl) s7 trivial fun u H7 e7 d7 => ?_
      cases (show u = V.ref p from d7)
      have e8 : Same H2 H7 := e3.trans (e5.trans (e6.trans e7))
      exact h2 _ H7 (fun b o hb hn => e8 _ _ (eN b o hb hn)) (T2.ext e8) (.tup (SqT.of (e7 _ _ upd_same)) (.cons (.str _) (.cons (.int _) .nil)))
  refine wpAny_call (codeAny_mono rc fun r s' hq => ?_)
  cases r with
  | error e => exact False.elim hq
  | ok fl =>
    cases fl with
    | ret u => exact I2.after hq
    | next => exact False.elim hq
    | brk => exact False.elim hq
    | cont => exact False.elim hq
end
end BL
end

section
set_option Elab.async false
set_option linter.all false
set_option maxRecDepth 100000
set_option maxHeartbeats 4000000
/-! BMw: defs that make lambdas; _law_like(_law_said(lambda: ..), due). -/
namespace BL
open PySem PySem.Spec PyProof.Rows L2
/-- a def of the module whose code makes lambdas: its table -/
def LamF (K : PySem.W.Frag) (mg : Str → Option Value) (base : Heap) (T : List (Addr × Str)) (x : Str) (st : Stmt) (ps : List Str) : Prop :=
  ∃ (f c Pt : Addr) (fd : FuncData), Fun K x x st f fd ∧ Binds K fd ps [] ∧ mg x = some (.ref f) ∧ fd.code = .ref c ∧ LamX.TabB base mg c Pt ∧ (Pt, (x ++ ".<locals>.") ++ "<lambda>") ∈ T ∧ ∀ p ∈ T, p.1 = Pt → p.2 = (x ++ ".<locals>.") ++ "<lambda>"
theorem Fr.ext {T : List (Addr × Str)} {H H2 : Hp} (e : LamX.ExtN H H2) (t : LamX.Tabs T H2) : Fr T [] H H2 :=
  ⟨fun b o h q => e b o h (fun ps z => by rcases q with ⟨_, q⟩ | ⟨_, _, q⟩ <;> (rw [q] at z; cases z)), fun b o h _ n => e b o h n, fun _ => t⟩
section
variable {P : Program} {w : World} {K : PySem.W.Frag} {mg : Str → Option Value} {base : Heap} {k : Nat} {T : List (Addr × Str)} {S : List Addr}
variable {X Y : Cx} {Γ : Gm} {Φ : MP} {e due : Expr} {σ : L2.St} {H : Hp} {st : Stmt} {C DT B CH CRu fI cc cda : Addr} {fdI : FuncData}
theorem LamF.fnF {x : Str} {ps : List Str} (F : LamF K mg base T x st ps) : FnF K mg x st ps := by
  obtain ⟨f, c, Pt, fd, h1, h2, h3, _⟩ := F
  exact ⟨f, fd, h1, h2, h3⟩
/-- THE RULE for such a def -/
theorem efn_ofL {x : Str} {N ps : List Str} {sp : Sp} (F : LamF K mg base T x st ps) (S : FnScope N ps (defScope st)) (hl : ∀ vs H Q E, sp vs H Q E → vs.length = ps.length)
    (body : ∀ X, In P w K mg base k X → X.A.guards = some [] → Nm N (defScope st) X → (∃ c Pt, LamM T X c Pt) → ∀ vs H Q, sp vs H Q E0 → tB X (defBody st) { nx := fun _ H' => Q .non H', rt := Q } (L2.start N vs) H) (hE : ∀ vs H Q E, sp vs H Q E → sp vs H Q E0) : EFn P w K mg base (k + 1) x sp := by
  obtain ⟨f, c, Pt, fd, F, hb, hm, hc, TB, mT, uT⟩ := F
  obtain ⟨oc, od, kV, doc, pm, an, cdv, ct, osl, rfl, lk, hcd⟩ := F.ex
  refine ⟨f, _, ps, hm, F.kp, hb, hl, fun A outer s H args us vs Q E g hr e0 hb' r h => ?_⟩
  refine LamX.run_ofS lk hcd S hr e0 hb' r (hl _ _ _ _ h) fun hr' => ?_
  exact ⟨_, (pb_sem).nox, body _ (nm_inX hr' S.nd) g ⟨rfl, rfl, fun _ => rfl, PassesOwn.never⟩ ⟨c, Pt, TB, hc, mT, uT⟩ vs H Q (hE _ _ _ _ h)⟩
/-- _law_like(_law_said(lambda: ..), due): nothing is raised -/
theorem te_likeS {params : Arguments} {body : Expr} {scope sc0 : Scope} {N0 : List Str} {p p' lpos pos pos' : Pos} {c Pt : Addr} {Q : VK} {m : Nat} {d : PyData} {R : MP} (hX : In P w K mg base k X) (hgd : X.A.guards = some []) (F : FnF K mg "_law_said" s_l_said ["_law_call"]) (Fl : EFn P w K mg base 1 "_law_like" (spLike K)) (g : GlAt X "_law_said") (gl : GlAt X "_law_like") (M : LamM T X c Pt) (hn : Nm N0 sc0 X) (hk : m + 4 ≤ k)
    (L : lamPB N0 sc0 scope none = true) (hdef : defaultsOf params X.env = ([], []))
    (hbind : ∀ (q : Str) (cl : List (Str × Addr)) (pm cv ctv : Value), bindArgs (PySem.W.kla_fn "<lambda>" q params body scope cl pm cv ctv) ⟨[], []⟩ = pure [])
    (hT : LamX.Tabs T H) (hs : Slots K σ H Γ) (ng : nlG Γ) (hdue : Ev K X Γ MP.top due (.d (.list [d]))) (sh : Shows (.list [d]))
    (h : ∀ H2, Fr T [] H H2 → teL P w K mg base m N0 scope body σ H2 fun v H3 => Dp K H3 v d ∧ Fr T S H2 H3 ∧ R.p H3) (kk : ∀ H', Fr T S H H' → R.p H' → Q (.bl true) H')
    (he : starEach [.Lambda params body scope lpos] X.env = (false, eval (.Lambda params body scope lpos) X.env) :: starEach [] X.env := by rfl)
    (he2 : starEach [.Call (.Name "_law_said" p) [.Lambda params body scope lpos] [] pos, due] X.env = (false, eval (.Call (.Name "_law_said" p) [.Lambda params body scope lpos] [] pos) X.env) :: starEach [due] X.env := by rfl)
    (he3 : starEach [due] X.env = (false, eval due X.env) :: starEach [] X.env := by rfl) (hpl : (backTo pos' (starEach [due] X.env)).any (·.1) = false := by rfl) :
    tE X (.Call (.Name "_law_like" p') [.Call (.Name "_law_said" p) [.Lambda params body scope lpos] [] pos, due] [] pos') σ H Q := by
  obtain ⟨e1, e2, _, _⟩ := id hn
  subst e1 e2
  refine te_callG hX hgd Fl gl (by omega) (ta_cons (te_said hX hgd F g M hk (lamP_by L) hdef hbind hT (fun H2 eN T2 Y hY => tE_mono (h H2 (Fr.ext eN T2) Y hY) fun v H3 ⟨dv, f3, r3⟩ q H4 hq e4 => ?_) he) he2) he2 hpl
  have f4 : Fr T S H H4 := ((Fr.ext eN T2).mono (fun _ z => nomatch z)).trans (f3.trans (Fr.same ((same_new hq).trans e4)))
  refine ta_cons (Ev.goT hdue (hs.fr f4 ng) fun u H5 e5 d5 => ta_nil ?_) he3
  refine ⟨.ref q, u, .list [d], rfl, .lst (SqL.of (e5 _ _ (e4 _ _ upd_same))) (.cons (dp_up (((same_new hq).trans e4).trans e5) dv) .nil), d5, sh, fun H6 e6 => ?_⟩
  exact kk H6 (f4.trans (Fr.same (e5.trans e6))) (R.up ((((same_new hq).trans e4).trans e5).trans e6) r3)
/-- _law_like(_law_said(lambda: ..), due): BadCall is raised -/
theorem te_likeX {params : Arguments} {body : Expr} {scope sc0 : Scope} {N0 : List Str} {p p' lpos pos pos' : Pos} {c Pt : Addr} {Q : VK} {m : Nat} {n : Int} (hX : In P w K mg base k X) (hgd : X.A.guards = some []) (BF : BadF P K mg B fI cc cda fdI) (SF : SaidF K mg B CH CRu) (F : FnF K mg "_law_said" s_l_said ["_law_call"]) (Fl : EFn P w K mg base 1 "_law_like" (spLike K)) (g : GlAt X "_law_said") (gl : GlAt X "_law_like") (M : LamM T X c Pt) (hn : Nm N0 sc0 X) (hk : m + 4 ≤ k)
    (L : lamPB N0 sc0 scope none = true) (hdef : defaultsOf params X.env = ([], []))
    (hbind : ∀ (q : Str) (cl : List (Str × Addr)) (pm cv ctv : Value), bindArgs (PySem.W.kla_fn "<lambda>" q params body scope cl pm cv ctv) ⟨[], []⟩ = pure [])
    (hT : LamX.Tabs T H) (hs : Slots K σ H Γ) (ng : nlG Γ) (hdue : Ev K X Γ MP.top due (.d (.tuple [.str "call", .int n]))) (sh : Shows (.tuple [.str "call", .int n]))
    (h : ∀ H2, Fr T [] H H2 → ∀ E1 : XK, BadX B n E1 H2 → teLX P w K mg base m N0 scope body E1 σ H2 fun _ _ => False) (kk : ∀ H', Fr T [] H H' → Q (.bl true) H')
    (he : starEach [.Lambda params body scope lpos] X.env = (false, eval (.Lambda params body scope lpos) X.env) :: starEach [] X.env := by rfl)
    (he2 : starEach [.Call (.Name "_law_said" p) [.Lambda params body scope lpos] [] pos, due] X.env = (false, eval (.Call (.Name "_law_said" p) [.Lambda params body scope lpos] [] pos) X.env) :: starEach [due] X.env := by rfl)
    (he3 : starEach [due] X.env = (false, eval due X.env) :: starEach [] X.env := by rfl) (hpl : (backTo pos' (starEach [due] X.env)).any (·.1) = false := by rfl) :
    tE X (.Call (.Name "_law_like" p') [.Call (.Name "_law_said" p) [.Lambda params body scope lpos] [] pos, due] [] pos') σ H Q := by
  obtain ⟨e1, e2, _, _⟩ := id hn
  subst e1 e2
  refine te_callG hX hgd Fl gl (by omega) (ta_cons (te_saidX hX hgd BF SF F g M hk (lamP_by L) hdef hbind hT (fun H2 eN T2 E1 hE => h H2 (Fr.ext eN T2) E1 hE) (fun v H4 eN4 T4 d4 => ?_) he) he2) he2 hpl
  have f4 : Fr T [] H H4 := Fr.ext eN4 T4
  refine ta_cons (Ev.goT hdue (hs.fr f4 ng) fun u H5 e5 d5 => ta_nil ?_) he3
  exact ⟨v, u, _, rfl, dp_up e5 d4, d5, sh, fun H6 e6 => kk H6 (f4.trans (Fr.same (e5.trans e6)))⟩
theorem shows_l1 {n wt : Nat} {d : PyData} (h : Sw n wt d) (hn : n ≤ 59) (hw : wt ≤ 900000) : Shows (.list [d]) := Shows.lst (by
  obtain ⟨h1, h2, h3, h4, h5⟩ := sw_lst (ds := [d]) (n := n) (wt := wt) (fun x hx => by rw [List.mem_singleton.mp hx]; exact h)
  exact ⟨h1, by omega, by simp at h3; omega, h4, h5⟩)
end
end BL
end

section
set_option Elab.async false
set_option linter.all false
set_option maxRecDepth 100000
set_option maxHeartbeats 4000000
/-! BMx: fresh lists; the own record's two lists changed; book, record, machine side by side. -/
namespace BL
open PySem PySem.Spec PyProof.Rows L2
/-! ### the three side by side -/
structure Tri (K : PySem.W.Frag) (C m lc lg : Addr) (N : Nat) (b : Addr) (h : Hl) (st : Stt) (o : Addr) (su : Stt) (H : Hp) : Prop where
  ma : MAt m lc lg N H
  bk : BkAt K C b h st H
  ow : OwAt K lc lg o su H
  ne : o ≠ m
section
variable {K : PySem.W.Frag} {C m lc lg b o : Addr} {N N' : Nat} {h : Hl} {st st' su su' : Stt} {H H' : Hp} {T : List (Addr × Str)}
theorem Tri.up (t : Tri K C m lc lg N b h st o su H) (e : Same H H') : Tri K C m lc lg N b h st o su H' := ⟨t.ma.up e, t.bk.up e, t.ow.up e, t.ne⟩
theorem Tri.kinds (t : Tri K C m lc lg N b h st o su H) : (∃ d x, H m = some (.dK d) ∧ H lc = some (.lst x)) ∧ (∃ x, H lg = some (.lst x)) ∧ (∃ d fs, H b = some (.ins C d fs)) ∧ ∃ kvs, H o = some (.dK kvs) := by
  obtain ⟨_, _, _, mv, _⟩ := t.ma
  obtain ⟨_, _, _, bk⟩ := t.bk
  obtain ⟨dx, hi⟩ := bk.i
  exact ⟨⟨_, _, mv.m, mv.c⟩, ⟨_, mv.g⟩, ⟨_, _, hi⟩, t.ow.is⟩
theorem Tri.bN (t : Tri K C m lc lg N b h st o su H) : b ∉ [m, lc, lg] := fun z => by
  obtain ⟨⟨_, _, h1, h2⟩, ⟨_, h3⟩, ⟨_, _, h4⟩, _⟩ := t.kinds
  simp only [List.mem_cons, List.not_mem_nil, or_false] at z
  rcases z with z | z | z <;> (rw [z] at h4; first | (rw [h1] at h4; cases h4; done) | (rw [h2] at h4; cases h4; done) | (rw [h3] at h4; cases h4; done))
theorem Tri.oN (t : Tri K C m lc lg N b h st o su H) : o ∉ [m, lc, lg] := fun z => by
  obtain ⟨⟨_, _, h1, h2⟩, ⟨_, h3⟩, _, ⟨_, h4⟩⟩ := t.kinds
  simp only [List.mem_cons, List.not_mem_nil, or_false] at z
  rcases z with z | z | z
  · exact t.ne z
  · rw [z, h2] at h4; cases h4
  · rw [z, h3] at h4; cases h4
theorem Tri.bo (t : Tri K C m lc lg N b h st o su H) : b ≠ o := fun z => by
  obtain ⟨_, _, ⟨_, _, h3⟩, ⟨_, h4⟩⟩ := t.kinds
  rw [z, h4] at h3; cases h3
theorem Tri.noL (t : Tri K C m lc lg N b h st o su H) {S : List Addr} (hS : ∀ x ∈ S, x = m ∨ x = lc ∨ x = lg ∨ x = b) : NoL lc lg S H := fun a ha => by
  obtain ⟨⟨_, _, h1, h2⟩, ⟨_, h3⟩, ⟨_, _, h4⟩, _⟩ := t.kinds
  rcases hS a ha with z | z | z | z
  · exact .inr (.inr fun xs q => by rw [z, h1] at q; cases q)
  · exact .inl z
  · exact .inr (.inl z)
  · exact .inr (.inr fun xs q => by rw [z, h4] at q; cases q)
theorem Tri.mN (t : Tri K C m lc lg N b h st o su H) {x : Addr} (hx : x ∉ [m, lc, lg]) : m ∉ [x] ∧ lc ∉ [x] ∧ lg ∉ [x] := by
  simp only [List.mem_cons, List.not_mem_nil, or_false, not_or] at hx ⊢
  exact ⟨Ne.symm hx.1, Ne.symm hx.2.1, Ne.symm hx.2.2⟩
theorem Tri.fm (t : Tri K C m lc lg N b h st o su H) (f : Fr T [m, lc, lg] H H') (hm : MAt m lc lg N' H') : Tri K C m lc lg N' b h st o su H' :=
  ⟨hm, t.bk.fr f t.bN, t.ow.fr f t.oN (t.noL fun x hx => by simp at hx; rcases hx with z | z | z <;> simp [z]), t.ne⟩
theorem Tri.fo (t : Tri K C m lc lg N b h st o su H) (f : Fr T [o] H H') (ho : OwAt K lc lg o su' H') : Tri K C m lc lg N b h st o su' H' :=
  ⟨t.ma.fr f (t.mN t.oN).1 (t.mN t.oN).2.1 (t.mN t.oN).2.2, t.bk.fr f (by simp [t.bo]), ho, t.ne⟩
theorem Tri.fb (t : Tri K C m lc lg N b h st o su H) (f : Fr T [b] H H') (hb : BkAt K C b h st' H') : Tri K C m lc lg N b h st' o su H' :=
  ⟨t.ma.fr f (t.mN t.bN).1 (t.mN t.bN).2.1 (t.mN t.bN).2.2, hb, t.ow.fr f (by simp [Ne.symm t.bo]) (t.noL fun x hx => by simp at hx; simp [hx]), t.ne⟩
theorem Tri.f0 (t : Tri K C m lc lg N b h st o su H) (f : Fr T [] H H') : Tri K C m lc lg N b h st o su H' :=
  ⟨t.ma.fr f (by simp) (by simp) (by simp), t.bk.fr f (by simp), t.ow.fr f (by simp) (fun a ha => nomatch ha), t.ne⟩
theorem Tri.mono (t : Tri K C m lc lg N b h st o su H) (l : N ≤ N') : Tri K C m lc lg N' b h st o su H := ⟨t.ma.mono l, t.bk, t.ow, t.ne⟩
def TriP (K : PySem.W.Frag) (C m lc lg : Addr) (N : Nat) (b : Addr) (h : Hl) (st : Stt) (o : Addr) (su : Stt) : MP := ⟨Tri K C m lc lg N b h st o su, fun e t => t.up e⟩
theorem Tri.lcs (t : Tri K C m lc lg N b h st o su H) : H lc ≠ none ∧ H lg ≠ none := by
  obtain ⟨⟨_, _, _, h2⟩, ⟨_, h3⟩, _, _⟩ := t.kinds
  exact ⟨fun z => (by rw [h2] at z; cases z), fun z => (by rw [h3] at z; cases z)⟩
end
/-! ### lists -/
section
variable {P : Program} {w : World} {K : PySem.W.Frag} {mg : Str → Option Value} {base : Heap} {k : Nat} {T : List (Addr × Str)} {S : List Addr}
variable {X : Cx} {Γ Γ' : Gm} {Φ : MP} {a b c e tg it : Expr} {es : List Expr} {pos p : Pos} {s t : Sv} {ss : List Sv} {σ : L2.St} {H : Hp} {D : Ends} {st : Stmt} {sts bd el : List Stmt} {ds es' : List PyData}
/-- e gives a list that stands in the heap -/
def EvM (K : PySem.W.Frag) (X : Cx) (Γ : Gm) (Φ : MP) (e : Expr) (ds : List PyData) : Prop := ∀ (σ : L2.St) (H : Hp) (Q : VK), Slots K σ H Γ → Φ.p H → (∀ q zs H', Same H H' → H' q = some (.lst zs) → DpAll K H' zs ds → Q (.ref q) H') → tE X e σ H Q
/-- .. that is new -/
def EvL (K : PySem.W.Frag) (X : Cx) (Γ : Gm) (Φ : MP) (e : Expr) (ds : List PyData) : Prop := ∀ (σ : L2.St) (H : Hp) (Q : VK), Slots K σ H Γ → Φ.p H → (∀ q zs H', Same H H' → H q = none → H' q = some (.lst zs) → DpAll K H' zs ds → Q (.ref q) H') → tE X e σ H Q
theorem EvL.to (h : EvL K X Γ Φ e ds) (q : ds = es') : EvL K X Γ Φ e es' := q ▸ h
theorem EvL.m (h : EvL K X Γ Φ e ds) : EvM K X Γ Φ e ds := fun σ H Q hs hp kk => h σ H Q hs hp fun q zs H' e1 _ h2 h3 => kk q zs H' e1 h2 h3
theorem evm_past {o l1 l2 : Addr} {xs ys : List V} {su : Stt} {lc lg : Addr} {i : Expr} (hX : In P w K mg base k X) (ho : Ev K X Γ Φ a (.r (.ref o))) (hi : Ev K X Γ Φ i (.d (.str "past"))) (h : ∀ H, Φ.p H → OwV K lc lg o l1 l2 xs ys su H) (hs : NoSl i := by intro _ _; rfl) : EvM K X Γ Φ (.Subscript a i pos) (su.past.map Ent.dO) := fun σ H Q hs' hp kk =>
  (ev_past hX ho hi h hs).go hs' hp fun v H1 e1 h1 => by
    cases (show v = V.ref l1 from h1)
    have q := h H1 (Φ.up e1 hp)
    exact kk l1 xs H1 e1 q.2.1 q.2.2.2.1
theorem evm_later {o l1 l2 : Addr} {xs ys : List V} {su : Stt} {lc lg : Addr} {i : Expr} (hX : In P w K mg base k X) (ho : Ev K X Γ Φ a (.r (.ref o))) (hi : Ev K X Γ Φ i (.d (.str "later"))) (h : ∀ H, Φ.p H → OwV K lc lg o l1 l2 xs ys su H) (hs : NoSl i := by intro _ _; rfl) : EvM K X Γ Φ (.Subscript a i pos) (su.later.map Ent.dO) := fun σ H Q hs' hp kk =>
  (ev_later hX ho hi h hs).go hs' hp fun v H1 e1 h1 => by
    cases (show v = V.ref l2 from h1)
    have q := h H1 (Φ.up e1 hp)
    exact kk l2 ys H1 e1 q.2.2.1 q.2.2.2.2.1
theorem evl_one {d : PyData} (h : Ev K X Γ Φ e (.d d)) (he : starEach [e] X.env = (false, eval e X.env) :: starEach [] X.env := by rfl) : EvL K X Γ Φ (.List [e] pos) [d] := fun σ H Q hs hp kk =>
  te_lst (ta_cons (h.go hs hp fun v H1 e1 h1 => ta_nil ⟨by simp, fun q hq => kk q [v] _ (e1.trans (same_new hq)) (same_dn e1 hq) upd_same (.cons (dp_up (same_new hq) h1) .nil)⟩) he)
theorem evl_sl {lo hi : Option Expr} {l u : Option Int} {p2 : Pos} (hX : In P w K mg base k X) (ha : EvM K X Γ Φ a ds) (h1 : EvO K X Γ Φ lo l) (h2 : EvO K X Γ Φ hi u) : EvL K X Γ Φ (.Subscript a (.Slice lo hi none p2) pos) (cutG ds l u) := fun σ H Q hs hp kk =>
  PEto (pe_slice sl_list pe_sem po_sem po_sem) (ha σ H _ hs hp fun q zs H1 e1 q1 r1 => evo_run h1 σ H1 _ (hs.up e1) (Φ.up e1 hp) fun H2 e2 => evo_run h2 σ H2 _ (hs.up (e1.trans e2)) (Φ.up (e1.trans e2) hp) fun H3 e3 => by
    have e := (e1.trans e2).trans e3
    rw [hX.K]
    exact ⟨q, zs, rfl, SqL.of ((e2.trans e3) _ _ q1), fun p' hp' => kk p' _ _ (e.trans (same_new hp')) (same_dn e hp') upd_same (dps_up (same_new hp') (dps_cut (dps_up (e2.trans e3) r1) _ _))⟩)
theorem evl_cat (ha : EvM K X Γ Φ a ds) (hb : EvM K X Γ Φ b es') (hz : ds.length + es'.length ≤ 5000) : EvL K X Γ Φ (.BinOp a .Add b pos) (ds ++ es') := fun σ H Q hs hp kk => by
  refine PEto (pe_op op_cat pe_sem pe_sem) (ha σ H _ hs hp fun q zs H1 e1 q1 r1 => hb σ H1 _ (hs.up e1) (Φ.up e1 hp) fun q' zs' H2 e2 q2 r2 => ?_)
  refine ⟨q, q', zs, zs', rfl, rfl, e2 _ _ q1, q2, by rw [sizeLine_eq]; have := dps_len r1; have := dps_len r2; omega, fun p hp' => ?_⟩
  exact kk p _ _ ((e1.trans e2).trans (same_new hp')) (same_dn (e1.trans e2) hp') upd_same (dps_up (same_new hp') (dps_app (dps_up e2 r1) r2))
/-! ### the own record changed -/
theorem own_put {lc lg o l1 l2 q : Addr} {xs ys zs : List V} {su : Stt} {l : List Ent} (ow : OwV K lc lg o l1 l2 xs ys su H) (hq : H q = some (.lst zs)) (hd : DpAll K H zs (l.map Ent.dO)) (nq : q ∉ [lc, lg]) :
    OwAt K lc lg o ⟨l, su.later⟩ (upd H o (.dK (putK [(.inr "past", .ref l1), (.inr "later", .ref l2)] (.inr "past") (.ref q)))) ∧ OwAt K lc lg o ⟨su.past, l⟩ (upd H o (.dK (putK [(.inr "past", .ref l1), (.inr "later", .ref l2)] (.inr "later") (.ref q)))) := by
  obtain ⟨a, b, c, d, e, g, i⟩ := ow
  have n1 : l1 ≠ o := fun z => by rw [z, a] at b; cases b
  have n2 : l2 ≠ o := fun z => by rw [z, a] at c; cases c
  have n3 : q ≠ o := fun z => by rw [z, a] at hq; cases hq
  have tS : ∀ x, TupS H (upd H o (.dK x)) := fun x => (Fr.upd (T := []) (S := [o]) a trivial (by simp)).tup
  exact ⟨⟨q, l2, zs, ys, upd_same, by rw [upd_ne n3]; exact hq, by rw [upd_ne n2]; exact c, dps_nl (tS _) (nls_dO _) hd, dps_nl (tS _) (nls_dO _) e, nq, i⟩,
    ⟨l1, q, xs, zs, upd_same, by rw [upd_ne n1]; exact b, by rw [upd_ne n3]; exact hq, dps_nl (tS _) (nls_dO _) d, dps_nl (tS _) (nls_dO _) hd, g, nq⟩⟩
theorem nq_of {lc lg q : Addr} (hl : H lc ≠ none ∧ H lg ≠ none) (hq : H q = none) : q ∉ [lc, lg] := fun z => by
  simp only [List.mem_cons, List.not_mem_nil, or_false] at z
  rcases z with z | z
  · exact hl.1 (by rw [← z]; exact hq)
  · exact hl.2 (by rw [← z]; exact hq)
/-- own['past'] = e -/
theorem tb_ownP {o i : Expr} {lc lg oa l1 l2 : Addr} {xs ys : List V} {su : Stt} {l : List Ent} {pos' : Pos} (hX : In P w K mg base k X) (he : EvL K X Γ Φ e (l.map Ent.dO)) (ho : Ev K X Γ Φ o (.r (.ref oa))) (hi : Ev K X Γ Φ i (.d (.str "past"))) (ng : nlG Γ) (hs : Slots K σ H Γ) (hp : Φ.p H) (hw : ∀ H, Φ.p H → OwV K lc lg oa l1 l2 xs ys su H) (hl : H lc ≠ none ∧ H lg ≠ none)
    (kk : ∀ H', Fr T [oa] H H' → Slots K σ H' Γ → OwAt K lc lg oa ⟨l, su.later⟩ H' → tB X sts D σ H') (hsw : swapsWith e (some (.Subscript o i pos')) pos.line X.env = pure false := by rfl) : tB X (.Assign [.Subscript o i pos'] e pos :: sts) D σ H := by
  refine tb_dput (kvs := [(.inr "past", .ref l1), (.inr "later", .ref l2)]) (d := oa) (x := "past") hX (he σ H _ hs hp fun q zs H1 e1 hn hq hd => (ho.go (hs.up e1) (Φ.up e1 hp) fun u H2 e2 h2 => hi.go (hs.up (e1.trans e2)) (Φ.up (e1.trans e2) hp) fun z H3 e3 h3 => ?_)) hsw
  have e := (e1.trans e2).trans e3
  have ow := hw H3 (Φ.up e hp)
  have f : Fr T [oa] H3 (upd H3 oa (.dK (putK [(.inr "past", .ref l1), (.inr "later", .ref l2)] (.inr "past") (.ref q)))) := Fr.upd ow.1 trivial (by simp)
  refine ⟨h2, dp_str h3, ow.1, by simp, kk _ ((Fr.same e).trans f) ((hs.up e).fr f ng) (own_put ow ((e2.trans e3) _ _ hq) (dps_up (e2.trans e3) hd) (nq_of hl hn)).1⟩
/-- own['later'] = e -/
theorem tb_ownL {o i : Expr} {lc lg oa l1 l2 : Addr} {xs ys : List V} {su : Stt} {l : List Ent} {pos' : Pos} (hX : In P w K mg base k X) (he : EvL K X Γ Φ e (l.map Ent.dO)) (ho : Ev K X Γ Φ o (.r (.ref oa))) (hi : Ev K X Γ Φ i (.d (.str "later"))) (ng : nlG Γ) (hs : Slots K σ H Γ) (hp : Φ.p H) (hw : ∀ H, Φ.p H → OwV K lc lg oa l1 l2 xs ys su H) (hl : H lc ≠ none ∧ H lg ≠ none)
    (kk : ∀ H', Fr T [oa] H H' → Slots K σ H' Γ → OwAt K lc lg oa ⟨su.past, l⟩ H' → tB X sts D σ H') (hsw : swapsWith e (some (.Subscript o i pos')) pos.line X.env = pure false := by rfl) : tB X (.Assign [.Subscript o i pos'] e pos :: sts) D σ H := by
  refine tb_dput (kvs := [(.inr "past", .ref l1), (.inr "later", .ref l2)]) (d := oa) (x := "later") hX (he σ H _ hs hp fun q zs H1 e1 hn hq hd => (ho.go (hs.up e1) (Φ.up e1 hp) fun u H2 e2 h2 => hi.go (hs.up (e1.trans e2)) (Φ.up (e1.trans e2) hp) fun z H3 e3 h3 => ?_)) hsw
  have e := (e1.trans e2).trans e3
  have ow := hw H3 (Φ.up e hp)
  have f : Fr T [oa] H3 (upd H3 oa (.dK (putK [(.inr "past", .ref l1), (.inr "later", .ref l2)] (.inr "later") (.ref q)))) := Fr.upd ow.1 trivial (by simp)
  refine ⟨h2, dp_str h3, ow.1, by simp, kk _ ((Fr.same e).trans f) ((hs.up e).fr f ng) (own_put ow ((e2.trans e3) _ _ hq) (dps_up (e2.trans e3) hd) (nq_of hl hn)).2⟩
theorem sv5 {H : Hp} {vs : List V} {a b c d e : Sv} (h : SvAll K H vs [a, b, c, d, e]) : ∃ v1 v2 v3 v4 v5, vs = [v1, v2, v3, v4, v5] ∧ a.ok K H v1 ∧ b.ok K H v2 ∧ c.ok K H v3 ∧ d.ok K H v4 ∧ e.ok K H v5 := by
  cases h with | cons h1 r => cases r with | cons h2 r => cases r with | cons h3 r => cases r with | cons h4 r => cases r with | cons h5 r => cases r; exact ⟨_, _, _, _, _, rfl, h1, h2, h3, h4, h5⟩
theorem EvA.goT {Q : List V → Hp → Prop} (h : EvA K X Γ MP.top es ss) (hs : Slots K σ H Γ) (kk : ∀ vs H', Same H H' → SvAll K H' vs ss → Q vs H') : tA X es σ H Q := h σ H Q hs trivial kk
theorem sv2' {H : Hp} {vs : List V} {a b : Sv} (h : SvAll K H vs [a, b]) : ∃ v1 v2, vs = [v1, v2] ∧ a.ok K H v1 ∧ b.ok K H v2 := sv2 h
theorem sv4 {H : Hp} {vs : List V} {a b c d : Sv} (h : SvAll K H vs [a, b, c, d]) : ∃ v1 v2 v3 v4, vs = [v1, v2, v3, v4] ∧ a.ok K H v1 ∧ b.ok K H v2 ∧ c.ok K H v3 ∧ d.ok K H v4 := by
  cases h with | cons h1 r => cases r with | cons h2 r => cases r with | cons h3 r => cases r with | cons h4 r => cases r; exact ⟨_, _, _, _, rfl, h1, h2, h3, h4⟩
theorem sv3 {H : Hp} {vs : List V} {a b c : Sv} (h : SvAll K H vs [a, b, c]) : ∃ v1 v2 v3, vs = [v1, v2, v3] ∧ a.ok K H v1 ∧ b.ok K H v2 ∧ c.ok K H v3 := by
  cases h with | cons h1 r => cases r with | cons h2 r => cases r with | cons h3 r => cases r; exact ⟨_, _, _, rfl, h1, h2, h3⟩
theorem eqv_lst0 (ds : List PyData) : PyData.eqv (.list ds) (.list []) = ds.isEmpty := by cases ds <;> rfl
theorem sh_dO {h : Hl} {n : Nat} {e : Ent} (o : e.Ok h n) : Sh 7 e.dO := sh_tup (n := 6) fun x hx => by
  rcases List.mem_cons.mp hx with rfl | hx; exact sh_ddO o.d
  rcases List.mem_cons.mp hx with rfl | hx; exact (sh_rl e.r).mono (by have := o.r.d; omega)
  rcases List.mem_cons.mp hx with rfl | hx; exact (sh_iT _).mono (by decide)
  rw [List.mem_singleton.mp hx]; exact (sh_int _).mono (by decide)
theorem sh_dOs {h : Hl} {n : Nat} {l : List Ent} (o : ∀ e ∈ l, e.Ok h n) : SeqAt.shaped (.list (l.map Ent.dO)) = true := (sh_lst (n := 7) fun x hx => by obtain ⟨e, he, rfl⟩ := List.mem_map.mp hx; exact sh_dO (o e he)).shaped (by decide)
end
end BL
end

section
set_option Elab.async false
set_option linter.all false
set_option maxRecDepth 100000
set_option maxHeartbeats 4000000
/-! BMy: _law_turn. -/
namespace BL
open PySem PySem.Spec PyProof.Rows L2
/-- one drawn deed -/
def spTurn (K : PySem.W.Frag) (T : List (Addr × Str)) (C : Addr) : Sp := fun vs H Q _ => ∃ (m lc lg b o : Addr) (vh : V) (N : Nat) (h : Hl) (r0 : Rl) (n : Nat) (st : Stt), vs = [.ref m, .ref b, vh, .ref o] ∧ Tri K C m lc lg N b h st o st H ∧ N < 2 ^ 45 ∧ h.Ok ∧ Dp K H vh h.d ∧ StI h r0 n st ∧ n ≤ 350 ∧ LamX.Tabs T H ∧
  ∀ st' H', Fr T [m, lc, lg, b, o] H H' → Tri K C m lc lg (N + 30) b h st' o st' H' → StI h r0 (n + 1) st' → Q (.bl true) H'
section
variable {P : Program} {w : World} {K : PySem.W.Frag} {mg : Str → Option Value} {base : Heap} {k : Nat} {T : List (Addr × Str)} {S : List Addr}
variable {X : Cx} {σ : L2.St} {H : Hp} {C B CH CRu fI cc cda : Addr} {fdI : FuncData}
theorem shows_nm (x : Wx) : Shows (.list [.str x.nm]) := shows_l1 (sw_str (by cases x <;> decide +kernel) (by cases x <;> decide +kernel)) (by decide) (by decide)
theorem shows_b (x : Bool) : Shows (.list [.bool x]) := shows_l1 (sw_bool x) (by decide) (by decide)
theorem shows_0 : Shows (.list [.none]) := shows_l1 sw_none (by decide) (by decide)
theorem shows_c0 : Shows (.tuple [.str "call", .int 0]) := Shows.tup ((sw_2 ((sw_str (x := "call") (by decide +kernel) (by decide +kernel)).mono (Nat.le_refl _) (by decide : 10 ≤ 40)) (sw_int (i := 0) (by decide) (by decide))).mono (by decide) (by decide))
theorem nlG_iff {Γ : Gm} (h : ∀ s ∈ Γ, ∀ d, s = some (.d d) → nl d = true) : nlG Γ := fun i d e => h _ (List.mem_of_getElem? e) d rfl
theorem f_l_turn (tx : Tx mg) (BB : BookF K mg C) (BF : BadF P K mg B fI cc cda fdI) (bdI : Binds K fdI ["self", "place"] []) (SF : SaidF K mg B CH CRu) (F : LamF K mg base T "_law_turn" s_l_turn ["_law_m", "_law_book", "_law_hall_so", "_law_own"]) (Fs : FnF K mg "_law_said" s_l_said ["_law_call"])
    (Fd : EFn P w K mg base 2 "_law_draw" (spDraw T)) (Fdeal : PFn P w K mg base 5 "_law_deal" R_step) (Fk : EFn P w K mg base 1 "_law_keep" (spKeep K T)) (Fl : EFn P w K mg base 1 "_law_like" (spLike K)) (Fm : PFn P w K mg base 1 "_law_more" R_more) (Fr' : EFn P w K mg base 5 "_law_rule" (spRule K T))
    (Fw : PFn P w K mg base 1 "is_whole" R_whole) (Fst : PFn P w K mg base 6 "step_of" R_step) (Fwm : PFn P w K mg base 1 "with_more" R_more) (Fn : PFn P w K mg base 5 "need_rule" R_need) : EFn P w K mg base 12 "_law_turn" (spTurn K T C) := by
  refine efn_ofL F sc_l_turn (fun vs H Q E h => by obtain ⟨_, _, _, _, _, _, _, _, _, _, _, rfl, _⟩ := h; rfl) (fun X hX hgd hn ⟨cM, PM, M⟩ vs H Q h => ?_) fun vs H Q E h => h
  have Vr := fun (j : Nat) {i : Nat} {x : Str} e => (tab_loc tb_l_turn hn (i := i) (x := x) j e).1
  have L := fun (j : Nat) {i : Nat} {x : Str} e => (tab_loc tb_l_turn hn (i := i) (x := x) j e).2
  have G := fun (j : Nat) {x : Str} e => tab_glo tb_l_turn hn (x := x) j e
  obtain ⟨m, lc, lg, b, o, vh, N, h, r0, n, st, rfl, tri, hN, ok, hh, si, hn3, hT, kk⟩ := h
  obtain ⟨en, la, eo⟩ := si.last
  have bo := si.bk ok (by omega) la
  have sz := si.sz
  have s0 : Slots K (L2.start n_l_turn [.ref m, .ref b, vh, .ref o]) H (startS n_l_turn [.r (.ref m), .r (.ref b), .d h.d, .r (.ref o)]) := startS_slots (.cons rfl (.cons rfl (.cons hh (.cons rfl .nil))))
  have ng0 : nlG (startS n_l_turn [.r (.ref m), .r (.ref b), .d h.d, .r (.ref o)]) := nlG_r (nlG_r (nlG_d (nl_hl h) (nlG_r (fun i d e => by
    have := List.mem_of_getElem? e
    simp at this))))
  refine tb_unp ?_ rfl (sw_by hn rfl)
  refine te_tup (ta_cons (te_drawP (Φ := MP.top) (m := m) (lc := lc) (lg := lg) (N := N) (n := 9) hX hgd Fd (G 0 rfl) (by decide) (ev_var (Vr 0 rfl) rfl) ev_int s0 trivial tri.ma (by omega) (by omega) (by omega) fun i H1 i0 i1 f1 m1 => ?_))
  have tri1 := tri.fm f1 m1
  have s1 := s0.fr f1 ng0
  refine ta_cons (te_drawP (Φ := MP.top) (m := m) (lc := lc) (lg := lg) (N := N + 1) (n := (h.fs.length : Int)) hX hgd Fd (G 0 rfl) (by decide) (ev_var (Vr 0 rfl) rfl) (Ev.to (ev_lenT hX (G 1 rfl) tx.len (ds := h.fs.map PyData.int) (ev_ixT (ds := [.int h.s, iT h.fs]) hX (ev_var (Vr 2 rfl) rfl) ev_int rfl)) (svI (by rw [List.length_map]))) s1 trivial tri1.ma (by omega) (by have := ok.n1; omega) (by have := ok.n4; omega) fun j H2 j0 j1 f2 m2 => ta_nil ⟨by simp, fun p hp => ?_⟩)
  obtain ⟨kk', rfl⟩ : ∃ q : Nat, j = (q : Int) := ⟨j.toNat, by omega⟩
  have hk : kk' < h.fs.length := by omega
  have e3 : Same H2 (upd H2 p (.tup [.int i, .int (kk' : Int)])) := same_new hp
  have tri3 := (tri1.fm f2 m2).up e3
  have s3 := (s1.fr f2 ng0).up e3
  have f3 : Fr T [m, lc, lg] H (upd H2 p (.tup [.int i, .int (kk' : Int)])) := (f1.trans f2).trans (Fr.same e3)
  refine (tg_tup (own := [4, 5]) (ds := [.int i, .int (kk' : Int)]) hX (tgs_cons (tg_name hX.nd (L 4 rfl) (by simp)) (tgs_cons (tg_name hX.nd (L 5 rfl) (by simp)) tgs_nil)) rfl) _ _ _ _ s3 (.tup (SqT.of upd_same) (.cons (.int _) (.cons (.int _) .nil))) fun σ4 s4 _ _ => ?_
  generalize upd H2 p (.tup [.int i, .int (kk' : Int)]) = H3 at tri3 s3 f3 s4 ⊢
  obtain ⟨l1, l2, xs, ys, ow⟩ := id tri3.ow
  refine tb_pure (Φ := OwVp K lc lg o l1 l2 xs ys st) (runS_unp (own := [6, 7, 8, 9]) (d := en.dO) (ev_ixL (i := -1) hX (ev_pastD hX (ev_var (Vr 3 rfl) rfl) ev_str (fun H q => q)) (ev_neg ev_int) (atI_last (by rw [List.getLast?_map, la]; rfl)) (by exact fun _ _ => rfl))
    (tg_tup hX (tgs_cons (tg_name hX.nd (L 6 rfl) (by simp)) (tgs_cons (tg_name hX.nd (L 7 rfl) (by simp)) (tgs_cons (tg_name hX.nd (L 8 rfl) (by simp)) (tgs_cons (tg_name hX.nd (L 9 rfl) (by simp)) tgs_nil)))) rfl)) s4 ow fun σ5 H5 e5 s5 => ?_
  have tri5 := tri3.up e5
  have f5 : Fr T [m, lc, lg] H H5 := f3.trans (Fr.same e5)
  have hT5 := f5.tabs hT
  have s5' : Slots K σ5 H5 [some (.r (.ref m)), some (.r (.ref b)), some (.d h.d), some (.r (.ref o)), some (.d (.int i)), some (.d (.int (kk' : Int))), some (.d (ddO en.dd)), some (.d en.r.d), some (.d (iT en.c)), some (.d (.int en.p)), none, none, none, none, none] := s5
  have ng5 : nlG [some (.r (.ref m)), some (.r (.ref b)), some (.d h.d), some (.r (.ref o)), some (.d (.int i)), some (.d (.int (kk' : Int))), some (.d (ddO en.dd)), some (.d en.r.d), some (.d (iT en.c)), some (.d (.int en.p)), none, none, none, none, none] := nlG_r (nlG_r (nlG_d (nl_hl h) (nlG_r (nlG_d (nl_int _) (nlG_d (nl_int _) (nlG_d (nl_ddO _) (nlG_d (nl_rl _) (nlG_d (nl_iT _) (nlG_d (nl_int _) (nlG_none (nlG_none (nlG_none (nlG_none (nlG_none nlG_nil))))))))))))))
  have toS : ∀ {x : Addr} {H H' : Hp}, x ∈ [m, lc, lg, b, o] → Fr T [x] H H' → Fr T [m, lc, lg, b, o] H H' := fun {x H H'} hx f => f.mono fun y hy => by rw [List.mem_singleton.mp hy]; exact hx
  have bS : b ∈ [m, lc, lg, b, o] := by simp
  have oS : o ∈ [m, lc, lg, b, o] := by simp
  have mS : ∀ {H H' : Hp}, Fr T [m, lc, lg] H H' → Fr T [m, lc, lg, b, o] H H' := fun {H H'} f => f.mono fun y hy => by simp at hy ⊢; rcases hy with z | z | z <;> simp [z]
  clear s5 s4 s3 s1 s0
  refine tb_ifP (Φ := MP.top) (x := decide (i < 4)) (evt_lt (ev_var (Vr 4 rfl) rfl) ev_int) s5' trivial (fun _ H6 e6 => ?_) (fun _ H6 e6 => tb_nil ?_)
  · have s6 := s5'.up e6
    refine tb_pure (Φ := MP.top) (runS_unp (own := [10, 11, 12]) (d := stepD (step h en.r en.c en.p kk')) (ev_call (ds := [h.d, en.r.d, iT en.c, .int en.p, .int (kk' : Int)]) hX Fdeal (G 2 rfl) (by decide) (eva_cons (ev_var (Vr 2 rfl) rfl) (eva_cons (ev_var (Vr 7 rfl) rfl) (eva_cons (ev_var (Vr 8 rfl) rfl) (eva_cons (ev_var (Vr 9 rfl) rfl) (eva_cons (ev_var (Vr 5 rfl) rfl) eva_nil))))) (.mk h en.r en.c en.p kk' ok (by rw [bo.so]; exact bo.ro.ok.ln) bo.so (by rw [bo.so]; exact hk) bo.ro.d))
      (tg_tup hX (tgs_cons (tg_name hX.nd (L 10 rfl) (by simp)) (tgs_cons (tg_name hX.nd (L 11 rfl) (by simp)) (tgs_cons (tg_name hX.nd (L 12 rfl) (by simp)) tgs_nil))) rfl)) s6 trivial fun σ7 H7 e7 s7 => ?_
    have tri7 := (tri5.up e6).up e7
    have s7' : Slots K σ7 H7 [some (.r (.ref m)), some (.r (.ref b)), some (.d h.d), some (.r (.ref o)), some (.d (.int i)), some (.d (.int (kk' : Int))), some (.d (ddO en.dd)), some (.d en.r.d), some (.d (iT en.c)), some (.d (.int en.p)), some (.d (iT (step h en.r en.c en.p kk').1)), some (.d (.int (step h en.r en.c en.p kk').2.1)), some (.d (.str (step h en.r en.c en.p kk').2.2.nm)), none, none] := s7
    have ng7 : nlG [some (.r (.ref m)), some (.r (.ref b)), some (.d h.d), some (.r (.ref o)), some (.d (.int i)), some (.d (.int (kk' : Int))), some (.d (ddO en.dd)), some (.d en.r.d), some (.d (iT en.c)), some (.d (.int en.p)), some (.d (iT (step h en.r en.c en.p kk').1)), some (.d (.int (step h en.r en.c en.p kk').2.1)), some (.d (.str (step h en.r en.c en.p kk').2.2.nm)), none, none] := nlG_r (nlG_r (nlG_d (nl_hl h) (nlG_r (nlG_d (nl_int _) (nlG_d (nl_int _) (nlG_d (nl_ddO _) (nlG_d (nl_rl _) (nlG_d (nl_iT _) (nlG_d (nl_int _) (nlG_d (nl_iT _) (nlG_d (nl_int _) (nlG_d (nl_str _) (nlG_none (nlG_none nlG_nil))))))))))))))
    refine tb_drop (te_callG hX hgd Fk (G 3 rfl) (by decide) (EvA.goT (eva_cons (ev_var (Vr 3 rfl) rfl) (eva_cons (ev_tup2 ev_str (ev_var (Vr 5 rfl) rfl)) (eva_cons (ev_var (Vr 7 rfl) rfl) (eva_cons (ev_var (Vr 10 rfl) rfl) (eva_cons (ev_var (Vr 11 rfl) rfl) eva_nil))))) s7' fun vs H8 e8 h8 => ?_))
    obtain ⟨v1, v2, v3, v4, v5, rfl, q1, q2, q3, q4, q5⟩ := sv5 h8
    cases (show v1 = V.ref o from q1)
    have tri8 := tri7.up e8
    refine ⟨lc, lg, o, st, .call kk', en.r, (step h en.r en.c en.p kk').1, (step h en.r en.c en.p kk').2.1, v2, v3, v4, v5, rfl, tri8.ow, tri8.lcs.1, tri8.lcs.2, q2, q3, q4, q5, by omega, fun H9 f9 ow9 => ?_⟩
    have tri9 : Tri K C m lc lg (N + 1 + 1) b h st o (stCall h st en kk') H9 := tri8.fo f9 ow9
    have s9 := (s7'.up e8).fr f9 ng7
    have f59 : Fr T [m, lc, lg, b, o] H5 H9 := (Fr.same ((e6.trans e7).trans e8)).trans (toS oS f9)
    refine tb_retE (te_likeS (S := [m, lc, lg, b, o]) (d := .str (step h en.r en.c en.p kk').2.2.nm) (R := TriP K C m lc lg (N + 1 + 1) b h (stCall h st en kk') o (stCall h st en kk')) (m := 7) hX hgd Fs Fl (G 5 rfl) (G 4 rfl) M hn (by decide) (by decide +kernel) rfl (fun _ _ _ _ _ => rfl) (f59.tabs hT5) s9 ng7 (ev_lst (ds := [.str (step h en.r en.c en.p kk').2.2.nm]) (eva_cons (ev_var (Vr 12 rfl) rfl) eva_nil) (by simp)) (shows_nm _) (fun H10 f10 Y hY => ?_) fun H11 f11 r11 => ?_)
    · have tri10 := tri9.f0 f10
      obtain ⟨w1, w2, w3, bk10⟩ := id tri10.bk
      have s10 := s9.fr f10 ng7
      obtain ⟨fc, fdc, mc⟩ := BB.call
      refine te_meth (Φ := BkVp K C b h st w1 w2 w3) (fs := fsB w1 w2 w3) hY.i BB.cls mc.mt (f_bcall (T := T) tx BB mc.fn Fw Fst) mc.bd (by decide) (ev_var (lv_var (vs := [(1, "_law_book"), (5, "_law_k")]) (gs := []) (by decide +kernel) hY 0 rfl) rfl) s10 bk10 (fun H q => q.i) rfl fun H11 e11 => ta_cons (Ev.goT (ev_var (lv_var (vs := [(1, "_law_book"), (5, "_law_k")]) (gs := []) (by decide +kernel) hY 1 rfl) rfl) (s10.up e11) fun u H12 e12 d12 => ta_nil ?_)
      cases dp_int d12
      have tri12 := (tri10.up e11).up e12
      exact ⟨b, h, st, en, kk', rfl, tri12.bk, bo, hk, fun H13 f13 bk13 => ⟨.str _, (Fr.same (e11.trans e12)).trans (toS bS f13), tri12.fb f13 bk13⟩⟩
    · exact kk _ H11 ((mS f5).trans (f59.trans f11)) (Tri.mono r11 (by omega)) (si.call la hk)
  refine tb_ifP (Φ := MP.top) (x := decide (i = 4)) (EvT.to (evt_eq hX (ev_var (Vr 4 rfl) rfl) ev_int) (eqv_int i 4)) (s5'.up e6) trivial (fun _ H7 e7 => ?_) (fun _ H7 e7 => tb_nil ?_)
  · have s7 := (s5'.up e6).up e7
    have tri7 := (tri5.up e6).up e7
    refine tb_ifP (Φ := MP.top) (x := decide (en.c.getD kk' 0 = 0)) (EvT.to (evt_eq hX (ev_ixT (ds := en.c.map PyData.int) hX (ev_var (Vr 8 rfl) rfl) (ev_var (Vr 5 rfl) rfl) (iT_get (by rw [bo.so]; exact hk))) ev_int) (eqv_int _ 0)) s7 trivial (fun z0 H8 e8 => ?_) (fun z0 H8 e8 => tb_nil ?_)
    · have hz := of_decide_eq_true z0
      have s8 := s7.up e8
      have tri8 := tri7.up e8
      have f58 : Fr T [m, lc, lg, b, o] H5 H8 := Fr.same ((e6.trans e7).trans e8)
      refine tb_retE (te_likeX (n := 0) (m := 7) hX hgd BF SF Fs Fl (G 5 rfl) (G 4 rfl) M hn (by decide) (by decide +kernel) rfl (fun _ _ _ _ _ => rfl) (f58.tabs hT5) s8 ng5 (ev_tup2 ev_str ev_int) shows_c0 (fun H10 f10 E1 hE Y hY tkY => ?_) fun H11 f11 => ?_)
      · have tri10 := tri8.f0 f10
        obtain ⟨w1, w2, w3, bk10⟩ := id tri10.bk
        have s10 := s8.fr f10 ng5
        obtain ⟨fc, fdc, mc⟩ := BB.give
        refine te_methX (E := E1) (Φ := BkVp K C b h st w1 w2 w3) (fs := fsB w1 w2 w3) hY.i tkY (fun _ _ _ _ z => z) BB.cls mc.mt (f_bgiveX tx BB BF bdI mc.fn Fw) mc.bd (by decide) (ev_var (lv_var (vs := [(1, "_law_book"), (5, "_law_k")]) (gs := []) (by decide +kernel) hY 0 rfl) rfl) s10 bk10 (fun H q => q.i) rfl fun H11 e11 => ta_cons (Ev.goT (ev_var (lv_var (vs := [(1, "_law_book"), (5, "_law_k")]) (gs := []) (by decide +kernel) hY 1 rfl) rfl) (s10.up e11) fun u H12 e12 d12 => ta_nil ?_)
        cases dp_int d12
        exact ⟨b, h, st, en, kk', rfl, ((tri10.up e11).up e12).bk, bo, hk, hz, (hE.up e11).up e12⟩
      · exact kk st H11 ((mS f5).trans (f58.trans (f11.mono fun _ z => nomatch z))) ((tri8.f0 f11).mono (by omega)) (si.mono (by omega))
    · have hz := of_decide_eq_false z0
      have s8 := s7.up e8
      refine tb_drop (te_callG hX hgd Fk (G 3 rfl) (by decide) (EvA.goT (eva_cons (ev_var (Vr 3 rfl) rfl) (eva_cons (ev_tup2 ev_str (ev_var (Vr 5 rfl) rfl)) (eva_cons (ev_var (Vr 7 rfl) rfl) (eva_cons (ev_lmore hX Fm (G 6 rfl) (by decide) (ev_var (Vr 8 rfl) rfl) (ev_var (Vr 5 rfl) rfl) (ev_neg ev_int) (by rw [bo.so]; exact hk) (by rw [bo.so]; have := ok.n4; omega)) (eva_cons (ev_var (Vr 9 rfl) rfl) eva_nil))))) s8 fun vs H9 e9 h9 => ?_))
      obtain ⟨v1, v2, v3, v4, v5, rfl, q1, q2, q3, q4, q5⟩ := sv5 h9
      cases (show v1 = V.ref o from q1)
      have tri9 := (tri7.up e8).up e9
      refine ⟨lc, lg, o, st, .give kk', en.r, more en.c kk' (-1), en.p, v2, v3, v4, v5, rfl, tri9.ow, tri9.lcs.1, tri9.lcs.2, q2, q3, q4, q5, by omega, fun H10 f10 ow10 => ?_⟩
      have tri10 : Tri K C m lc lg (N + 1 + 1) b h st o (stGive st en kk') H10 := tri9.fo f10 ow10
      have s10 := (s8.up e9).fr f10 ng5
      have f510 : Fr T [m, lc, lg, b, o] H5 H10 := (Fr.same (((e6.trans e7).trans e8).trans e9)).trans (toS oS f10)
      refine tb_retE (te_likeS (S := [m, lc, lg, b, o]) (d := .none) (R := TriP K C m lc lg (N + 1 + 1) b h (stGive st en kk') o (stGive st en kk')) (m := 7) hX hgd Fs Fl (G 5 rfl) (G 4 rfl) M hn (by decide) (by decide +kernel) rfl (fun _ _ _ _ _ => rfl) (f510.tabs hT5) s10 ng5 (ev_lst (ds := [.none]) (eva_cons ev_non eva_nil) (by simp)) shows_0 (fun H11 f11 Y hY => ?_) fun H11 f11 r11 => ?_)
      · have tri11 := tri10.f0 f11
        obtain ⟨w1, w2, w3, bk11⟩ := id tri11.bk
        have s11 := s10.fr f11 ng5
        obtain ⟨fc, fdc, mc⟩ := BB.give
        refine te_meth (Φ := BkVp K C b h st w1 w2 w3) (fs := fsB w1 w2 w3) hY.i BB.cls mc.mt (f_bgive (T := T) tx BB mc.fn Fw Fwm) mc.bd (by decide) (ev_var (lv_var (vs := [(1, "_law_book"), (5, "_law_k")]) (gs := []) (by decide +kernel) hY 0 rfl) rfl) s11 bk11 (fun H q => q.i) rfl fun H12 e12 => ta_cons (Ev.goT (ev_var (lv_var (vs := [(1, "_law_book"), (5, "_law_k")]) (gs := []) (by decide +kernel) hY 1 rfl) rfl) (s11.up e12) fun u H13 e13 d13 => ta_nil ?_)
        cases dp_int d13
        have tri13 := (tri11.up e12).up e13
        exact ⟨b, h, st, en, kk', rfl, tri13.bk, bo, hk, hz, fun H14 f14 bk14 => ⟨.non, (Fr.same (e12.trans e13)).trans (toS bS f14), tri13.fb f14 bk14⟩⟩
      · exact kk _ H11 ((mS f5).trans (f510.trans f11)) (Tri.mono r11 (by omega)) (si.give la hk hz)
  refine tb_ifP (Φ := MP.top) (x := decide (i = 5)) (EvT.to (evt_eq hX (ev_var (Vr 4 rfl) rfl) ev_int) (eqv_int i 5)) ((s5'.up e6).up e7) trivial (fun _ H8 e8 => ?_) (fun _ H8 e8 => tb_nil ?_)
  · have s8 := ((s5'.up e6).up e7).up e8
    have tri8 := ((tri5.up e6).up e7).up e8
    refine tb_set hX (L 13 rfl) (te_callG hX hgd Fr' (G 7 rfl) (by decide) (EvA.goT (eva_cons (ev_var (Vr 0 rfl) rfl) (eva_cons (ev_var (Vr 2 rfl) rfl) eva_nil)) s8 fun vs H9 e9 h9 => ?_))
    obtain ⟨v1, v2, rfl, q1, q2⟩ := sv2 h9
    cases (show v1 = V.ref m from q1)
    have tri9 := tri8.up e9
    refine ⟨m, lc, lg, N + 1 + 1, h, v2, rfl, tri9.ma, by omega, ok, q2, fun r vr H10 ro dr f10 m10 => ?_⟩
    have tri10 := tri9.fm f10 m10
    have s10 : Slots K (σ5.set 13 (some vr)) H10 [some (.r (.ref m)), some (.r (.ref b)), some (.d h.d), some (.r (.ref o)), some (.d (.int i)), some (.d (.int (kk' : Int))), some (.d (ddO en.dd)), some (.d en.r.d), some (.d (iT en.c)), some (.d (.int en.p)), none, none, none, some (.d r.d), none] := Slots.set (i := 13) (s := .d r.d) ((s8.up e9).fr f10 ng5) dr
    have ng10 : nlG [some (.r (.ref m)), some (.r (.ref b)), some (.d h.d), some (.r (.ref o)), some (.d (.int i)), some (.d (.int (kk' : Int))), some (.d (ddO en.dd)), some (.d en.r.d), some (.d (iT en.c)), some (.d (.int en.p)), none, none, none, some (.d r.d), none] := nlG_r (nlG_r (nlG_d (nl_hl h) (nlG_r (nlG_d (nl_int _) (nlG_d (nl_int _) (nlG_d (nl_ddO _) (nlG_d (nl_rl _) (nlG_d (nl_iT _) (nlG_d (nl_int _) (nlG_none (nlG_none (nlG_none (nlG_d (nl_rl r) (nlG_none nlG_nil))))))))))))))
    refine tb_drop (te_callG hX hgd Fk (G 3 rfl) (by decide) (EvA.goT (eva_cons (ev_var (Vr 3 rfl) rfl) (eva_cons (ev_tup2 ev_str (ev_var (Vr 13 rfl) rfl)) (eva_cons (ev_var (Vr 13 rfl) rfl) (eva_cons (ev_var (Vr 8 rfl) rfl) (eva_cons (ev_var (Vr 9 rfl) rfl) eva_nil))))) s10 fun vs H11 e11 h11 => ?_))
    obtain ⟨v1, v2, v3, v4, v5, rfl, q1, q2, q3, q4, q5⟩ := sv5 h11
    cases (show v1 = V.ref o from q1)
    have tri11 := tri10.up e11
    refine ⟨lc, lg, o, st, .change r, r, en.c, en.p, v2, v3, v4, v5, rfl, tri11.ow, tri11.lcs.1, tri11.lcs.2, q2, q3, q4, q5, by omega, fun H12 f12 ow12 => ?_⟩
    have tri12 : Tri K C m lc lg (N + 1 + 1 + 20) b h st o (stChange st en r) H12 := tri11.fo f12 ow12
    have s12 := (s10.up e11).fr f12 ng10
    have f512 : Fr T [m, lc, lg, b, o] H5 H12 := (Fr.same (((e6.trans e7).trans e8).trans e9)).trans ((mS f10).trans ((Fr.same e11).trans (toS oS f12)))
    refine tb_retE (te_likeS (S := [m, lc, lg, b, o]) (d := .none) (R := TriP K C m lc lg (N + 1 + 1 + 20) b h (stChange st en r) o (stChange st en r)) (m := 7) hX hgd Fs Fl (G 5 rfl) (G 4 rfl) M hn (by decide) (by decide +kernel) rfl (fun _ _ _ _ _ => rfl) (f512.tabs hT5) s12 ng10 (ev_lst (ds := [.none]) (eva_cons ev_non eva_nil) (by simp)) shows_0 (fun H13 f13 Y hY => ?_) fun H13 f13 r13 => ?_)
    · have tri13 := tri12.f0 f13
      obtain ⟨w1, w2, w3, bk13⟩ := id tri13.bk
      have s13 := s12.fr f13 ng10
      obtain ⟨fc, fdc, mc⟩ := BB.change
      refine te_meth (Φ := BkVp K C b h st w1 w2 w3) (fs := fsB w1 w2 w3) hY.i BB.cls mc.mt (f_bchange (T := T) tx BB mc.fn Fn) mc.bd (by decide) (ev_var (lv_var (vs := [(1, "_law_book"), (13, "_law_other")]) (gs := []) (by decide +kernel) hY 0 rfl) rfl) s13 bk13 (fun H q => q.i) rfl fun H14 e14 => ta_cons (Ev.goT (ev_var (lv_var (vs := [(1, "_law_book"), (13, "_law_other")]) (gs := []) (by decide +kernel) hY 1 rfl) rfl) (s13.up e14) fun u H15 e15 d15 => ta_nil ?_)
      have tri15 := (tri13.up e14).up e15
      exact ⟨b, h, st, en, r, u, rfl, tri15.bk, bo, ro, d15, fun H16 f16 bk16 => ⟨.non, (Fr.same (e14.trans e15)).trans (toS bS f16), tri15.fb f16 bk16⟩⟩
    · exact kk _ H13 ((mS f5).trans (f512.trans f13)) (Tri.mono r13 (by omega)) (si.change la ro)
  refine tb_ifP (Φ := MP.top) (x := decide (i < 8)) (evt_lt (ev_var (Vr 4 rfl) rfl) ev_int) (((s5'.up e6).up e7).up e8) trivial (fun _ H9 e9 => ?_) (fun _ H9 e9 => tb_nil ?_)
  · have s9 := (((s5'.up e6).up e7).up e8).up e9
    have tri9 := (((tri5.up e6).up e7).up e8).up e9
    have e59 := ((e6.trans e7).trans e8).trans e9
    obtain ⟨l1, l2, xs, ys, ow9⟩ := id tri9.ow
    refine tb_pure (Φ := OwVp K lc lg o l1 l2 xs ys st) (runS_set (s := .d (.bool (decide (1 < st.past.length)))) hX (L 14 rfl) (Ev.to (ev_gt (ev_lenL hX (G 1 rfl) tx.len (ev_pastD hX (ev_var (Vr 3 rfl) rfl) ev_str (fun H q => q))) ev_int) (by rw [List.length_map]; congr 2; exact decide_eq_decide.mpr (by omega)))) s9 ow9 fun σ10 H10 e10 s10 => ?_
    have tri10 := tri9.up e10
    have s10' : Slots K σ10 H10 [some (.r (.ref m)), some (.r (.ref b)), some (.d h.d), some (.r (.ref o)), some (.d (.int i)), some (.d (.int (kk' : Int))), some (.d (ddO en.dd)), some (.d en.r.d), some (.d (iT en.c)), some (.d (.int en.p)), none, none, none, none, some (.d (.bool (decide (1 < st.past.length))))] := s10
    have ngU : nlG [some (.r (.ref m)), some (.r (.ref b)), some (.d h.d), some (.r (.ref o)), some (.d (.int i)), some (.d (.int (kk' : Int))), some (.d (ddO en.dd)), some (.d en.r.d), some (.d (iT en.c)), some (.d (.int en.p)), none, none, none, none, some (.d (.bool (decide (1 < st.past.length))))] := nlG_r (nlG_r (nlG_d (nl_hl h) (nlG_r (nlG_d (nl_int _) (nlG_d (nl_int _) (nlG_d (nl_ddO _) (nlG_d (nl_rl _) (nlG_d (nl_iT _) (nlG_d (nl_int _) (nlG_none (nlG_none (nlG_none (nlG_none (nlG_d (nl_bool _) nlG_nil))))))))))))))
    by_cases hl : 1 < st.past.length
    · have hz : decide (1 < st.past.length) = true := decide_eq_true hl
      rw [hz] at s10' ngU
      refine tb_ifP (Φ := MP.top) (x := true) (evt_val (ev_var (Vr 14 rfl) rfl)) s10' trivial (fun _ H11 e11 => ?_) (fun z => nomatch z)
      obtain ⟨l, hlx⟩ : ∃ l, st.past = l ++ [en] := List.getLast?_eq_some_iff.mp la
      have hln : l ≠ [] := fun z => by rw [hlx, z] at hl; simp at hl
      have tri11 := tri10.up e11
      obtain ⟨l1, l2, xs, ys, ow11⟩ := id tri11.ow
      refine tb_ownL (T := T) (Φ := OwVp K lc lg o l1 l2 xs ys st) (l := en :: st.later) hX (evl_cat (EvL.m (evl_one (ev_ixL (i := -1) (d := en.dO) hX (ev_pastD hX (ev_var (Vr 3 rfl) rfl) ev_str (fun H q => q)) (ev_neg ev_int) (atI_last (by rw [List.getLast?_map, la]; rfl)) (by exact fun _ _ => rfl)))) (evm_later hX (ev_var (Vr 3 rfl) rfl) ev_str fun H q => q) (by simp; omega)) (ev_var (Vr 3 rfl) rfl) ev_str ngU (s10'.up e11) ow11 (fun H q => q) tri11.lcs fun H12 f12 s12 ow12 => ?_
      have tri12 := tri11.fo f12 ow12
      obtain ⟨l1, l2, xs, ys, ow12'⟩ := id tri12.ow
      refine tb_ownP (T := T) (Φ := OwVp K lc lg o l1 l2 xs ys ⟨st.past, en :: st.later⟩) (l := l) hX (EvL.to (evl_sl (l := none) (u := some (-1)) hX (evm_past hX (ev_var (Vr 3 rfl) rfl) ev_str fun H q => q) trivial (ev_neg ev_int)) (by rw [show (⟨st.past, en :: st.later⟩ : Stt).past = l ++ [en] from hlx, List.map_append]; exact cutG_init _ _)) (ev_var (Vr 3 rfl) rfl) ev_str ngU s12 ow12' (fun H q => q) tri12.lcs fun H13 f13 s13 ow13 => ?_
      have tri13 : Tri K C m lc lg (N + 1 + 1) b h st o ⟨l, en :: st.later⟩ H13 := tri12.fo f13 ow13
      have f513 : Fr T [m, lc, lg, b, o] H5 H13 := (Fr.same ((e59.trans e10).trans e11)).trans ((toS oS f12).trans (toS oS f13))
      refine tb_nil ?_
      refine tb_retE (te_likeS (S := [m, lc, lg, b, o]) (d := .bool true) (R := TriP K C m lc lg (N + 1 + 1) b h ⟨l, en :: st.later⟩ o ⟨l, en :: st.later⟩) (m := 7) hX hgd Fs Fl (G 5 rfl) (G 4 rfl) M hn (by decide) (by decide +kernel) rfl (fun _ _ _ _ _ => rfl) (f513.tabs hT5) s13 ngU (ev_lst (ds := [.bool true]) (eva_cons (ev_var (Vr 14 rfl) rfl) eva_nil) (by simp)) (shows_b _) (fun H20 f20 Y hY => ?_) fun H20 f20 r20 => ?_)
      · have tri20 := tri13.f0 f20
        obtain ⟨w1, w2, w3, bk20⟩ := id tri20.bk
        have s20 := s13.fr f20 ngU
        obtain ⟨fc, fdc, mc⟩ := BB.undo
        refine te_meth0 (Φ := BkVp K C b h st w1 w2 w3) (fs := fsB w1 w2 w3) hY.i BB.cls mc.mt (f_bundo (T := T) tx BB mc.fn) mc.bd (by decide) (ev_var (lv_var (vs := [(1, "_law_book")]) (gs := []) (by decide +kernel) hY 0 rfl) rfl) s20 bk20 (fun H q => q.i) rfl fun H21 e21 => ?_
        have tri21 := tri20.up e21
        exact ⟨b, h, st, rfl, tri21.bk, si.ne, by omega, fun z => by omega, fun l' x' hlx' hln' H22 f22 bk22 => by
            obtain ⟨rfl, hx⟩ := List.append_inj' (hlx.symm.trans hlx') rfl
            cases hx
            exact ⟨.bl true, (Fr.same e21).trans (toS bS f22), tri21.fb f22 bk22⟩⟩
      · exact kk _ H20 ((mS f5).trans (f513.trans f20)) (Tri.mono r20 (by omega)) ((si.undo hlx hln).mono (by omega))
    · have hz : decide (1 < st.past.length) = false := decide_eq_false hl
      rw [hz] at s10' ngU
      refine tb_ifP (Φ := MP.top) (x := false) (evt_val (ev_var (Vr 14 rfl) rfl)) s10' trivial (fun z => nomatch z) (fun _ H11 e11 => tb_nil ?_)
      have tri11 := tri10.up e11
      have s11 := s10'.up e11
      have f511 : Fr T [m, lc, lg, b, o] H5 H11 := Fr.same ((e59.trans e10).trans e11)
      refine tb_retE (te_likeS (S := [m, lc, lg, b, o]) (d := .bool false) (R := TriP K C m lc lg (N + 1 + 1) b h st o st) (m := 7) hX hgd Fs Fl (G 5 rfl) (G 4 rfl) M hn (by decide) (by decide +kernel) rfl (fun _ _ _ _ _ => rfl) (f511.tabs hT5) s11 ngU (ev_lst (ds := [.bool false]) (eva_cons (ev_var (Vr 14 rfl) rfl) eva_nil) (by simp)) (shows_b _) (fun H20 f20 Y hY => ?_) fun H20 f20 r20 => ?_)
      · have tri20 := tri11.f0 f20
        obtain ⟨w1, w2, w3, bk20⟩ := id tri20.bk
        have s20 := s11.fr f20 ngU
        obtain ⟨fc, fdc, mc⟩ := BB.undo
        refine te_meth0 (Φ := BkVp K C b h st w1 w2 w3) (fs := fsB w1 w2 w3) hY.i BB.cls mc.mt (f_bundo (T := T) tx BB mc.fn) mc.bd (by decide) (ev_var (lv_var (vs := [(1, "_law_book")]) (gs := []) (by decide +kernel) hY 0 rfl) rfl) s20 bk20 (fun H q => q.i) rfl fun H21 e21 => ?_
        have tri21 := tri20.up e21
        exact ⟨b, h, st, rfl, tri21.bk, si.ne, by omega, fun _ H22 e22 => ⟨.bl false, Fr.same (e21.trans e22), tri21.up e22⟩, fun l' x' hlx' hln' => by
            have := List.length_pos_iff.mpr hln'
            rw [hlx', List.length_append] at hl
            simp at hl
            exact absurd hl hln'⟩
      · exact kk _ H20 ((mS f5).trans (f511.trans f20)) (Tri.mono r20 (by omega)) (si.mono (by omega))
  · have s9 := (((s5'.up e6).up e7).up e8).up e9
    have tri9 := (((tri5.up e6).up e7).up e8).up e9
    have e59 := ((e6.trans e7).trans e8).trans e9
    have okl : ∀ e ∈ st.later, e.Ok h n := fun e he => si.al e (List.mem_append_right _ he)
    obtain ⟨l1, l2, xs, ys, ow9⟩ := id tri9.ow
    refine tb_pure (Φ := OwVp K lc lg o l1 l2 xs ys st) (runS_set (s := .d (.bool (!st.later.isEmpty))) hX (L 14 rfl) (Ev.to (ev_ne hX (ev_laterD hX (ev_var (Vr 3 rfl) rfl) ev_str (fun H q => q)) (ev_lst (ds := []) eva_nil (by simp)) (sh_dOs okl) rfl) (by rw [eqv_lst0, List.isEmpty_map]))) s9 ow9 fun σ10 H10 e10 s10 => ?_
    have tri10 := tri9.up e10
    have s10' : Slots K σ10 H10 [some (.r (.ref m)), some (.r (.ref b)), some (.d h.d), some (.r (.ref o)), some (.d (.int i)), some (.d (.int (kk' : Int))), some (.d (ddO en.dd)), some (.d en.r.d), some (.d (iT en.c)), some (.d (.int en.p)), none, none, none, none, some (.d (.bool (!st.later.isEmpty)))] := s10
    have ngR : nlG [some (.r (.ref m)), some (.r (.ref b)), some (.d h.d), some (.r (.ref o)), some (.d (.int i)), some (.d (.int (kk' : Int))), some (.d (ddO en.dd)), some (.d en.r.d), some (.d (iT en.c)), some (.d (.int en.p)), none, none, none, none, some (.d (.bool (!st.later.isEmpty)))] := nlG_r (nlG_r (nlG_d (nl_hl h) (nlG_r (nlG_d (nl_int _) (nlG_d (nl_int _) (nlG_d (nl_ddO _) (nlG_d (nl_rl _) (nlG_d (nl_iT _) (nlG_d (nl_int _) (nlG_none (nlG_none (nlG_none (nlG_none (nlG_d (nl_bool _) nlG_nil))))))))))))))
    cases hl : st.later with
    | cons x l =>
      rw [hl] at s10' ngR
      refine tb_ifP (Φ := MP.top) (x := true) (evt_val (ev_var (Vr 14 rfl) rfl)) s10' trivial (fun _ H11 e11 => ?_) (fun z => nomatch z)
      have tri11 := tri10.up e11
      obtain ⟨l1, l2, xs, ys, ow11⟩ := id tri11.ow
      have szl : st.later.length = l.length + 1 := by rw [hl]; rfl
      refine tb_ownP (T := T) (Φ := OwVp K lc lg o l1 l2 xs ys st) (l := st.past ++ [x]) hX (EvL.to (evl_cat (evm_past hX (ev_var (Vr 3 rfl) rfl) ev_str fun H q => q) (EvL.m (evl_sl (l := none) (u := some ((1 : Nat) : Int)) hX (evm_later hX (ev_var (Vr 3 rfl) rfl) ev_str fun H q => q) trivial ev_int)) (by rw [cutG_to]; simp; omega)) (by rw [cutG_to, hl, List.map_append]; rfl)) (ev_var (Vr 3 rfl) rfl) ev_str ngR (s10'.up e11) ow11 (fun H q => q) tri11.lcs fun H12 f12 s12 ow12 => ?_
      have tri12 := tri11.fo f12 ow12
      obtain ⟨l1, l2, xs, ys, ow12'⟩ := id tri12.ow
      refine tb_ownL (T := T) (Φ := OwVp K lc lg o l1 l2 xs ys ⟨st.past ++ [x], st.later⟩) (l := l) hX (EvL.to (evl_sl (l := some ((1 : Nat) : Int)) (u := none) hX (evm_later hX (ev_var (Vr 3 rfl) rfl) ev_str fun H q => q) ev_int trivial) (by rw [cutG_from]; show (st.later.map Ent.dO).drop 1 = _; rw [hl]; rfl)) (ev_var (Vr 3 rfl) rfl) ev_str ngR s12 ow12' (fun H q => q) tri12.lcs fun H13 f13 s13 ow13 => ?_
      have tri13 : Tri K C m lc lg (N + 1 + 1) b h st o ⟨st.past ++ [x], l⟩ H13 := tri12.fo f13 ow13
      have f513 : Fr T [m, lc, lg, b, o] H5 H13 := (Fr.same ((e59.trans e10).trans e11)).trans ((toS oS f12).trans (toS oS f13))
      refine tb_nil ?_
      refine tb_retE (te_likeS (S := [m, lc, lg, b, o]) (d := .bool true) (R := TriP K C m lc lg (N + 1 + 1) b h ⟨st.past ++ [x], l⟩ o ⟨st.past ++ [x], l⟩) (m := 7) hX hgd Fs Fl (G 5 rfl) (G 4 rfl) M hn (by decide) (by decide +kernel) rfl (fun _ _ _ _ _ => rfl) (f513.tabs hT5) s13 ngR (ev_lst (ds := [.bool true]) (eva_cons (ev_var (Vr 14 rfl) rfl) eva_nil) (by simp)) (shows_b _) (fun H20 f20 Y hY => ?_) fun H20 f20 r20 => ?_)
      · have tri20 := tri13.f0 f20
        obtain ⟨w1, w2, w3, bk20⟩ := id tri20.bk
        have s20 := s13.fr f20 ngR
        obtain ⟨fc, fdc, mc⟩ := BB.redo
        refine te_meth0 (Φ := BkVp K C b h st w1 w2 w3) (fs := fsB w1 w2 w3) hY.i BB.cls mc.mt (f_bredo (T := T) BB mc.fn) mc.bd (by decide) (ev_var (lv_var (vs := [(1, "_law_book")]) (gs := []) (by decide +kernel) hY 0 rfl) rfl) s20 bk20 (fun H q => q.i) rfl fun H21 e21 => ?_
        have tri21 := tri20.up e21
        exact ⟨b, h, st, n, rfl, tri21.bk, okl, by omega, fun z => (by rw [hl] at z; cases z), fun x' l' hl' H22 f22 bk22 => by
            cases hl.symm.trans hl'
            exact ⟨.bl true, (Fr.same e21).trans (toS bS f22), tri21.fb f22 bk22⟩⟩
      · exact kk _ H20 ((mS f5).trans (f513.trans f20)) (Tri.mono r20 (by omega)) ((si.redo hl).mono (by omega))
    | nil =>
      rw [hl] at s10' ngR
      refine tb_ifP (Φ := MP.top) (x := false) (evt_val (ev_var (Vr 14 rfl) rfl)) s10' trivial (fun z => nomatch z) (fun _ H11 e11 => tb_nil ?_)
      have tri11 := tri10.up e11
      have s11 := s10'.up e11
      have f511 : Fr T [m, lc, lg, b, o] H5 H11 := Fr.same ((e59.trans e10).trans e11)
      refine tb_retE (te_likeS (S := [m, lc, lg, b, o]) (d := .bool false) (R := TriP K C m lc lg (N + 1 + 1) b h st o st) (m := 7) hX hgd Fs Fl (G 5 rfl) (G 4 rfl) M hn (by decide) (by decide +kernel) rfl (fun _ _ _ _ _ => rfl) (f511.tabs hT5) s11 ngR (ev_lst (ds := [.bool false]) (eva_cons (ev_var (Vr 14 rfl) rfl) eva_nil) (by simp)) (shows_b _) (fun H20 f20 Y hY => ?_) fun H20 f20 r20 => ?_)
      · have tri20 := tri11.f0 f20
        obtain ⟨w1, w2, w3, bk20⟩ := id tri20.bk
        have s20 := s11.fr f20 ngR
        obtain ⟨fc, fdc, mc⟩ := BB.redo
        refine te_meth0 (Φ := BkVp K C b h st w1 w2 w3) (fs := fsB w1 w2 w3) hY.i BB.cls mc.mt (f_bredo (T := T) BB mc.fn) mc.bd (by decide) (ev_var (lv_var (vs := [(1, "_law_book")]) (gs := []) (by decide +kernel) hY 0 rfl) rfl) s20 bk20 (fun H q => q.i) rfl fun H21 e21 => ?_
        have tri21 := tri20.up e21
        exact ⟨b, h, st, n, rfl, tri21.bk, okl, by omega, fun _ H22 e22 => ⟨.bl false, Fr.same (e21.trans e22), tri21.up e22⟩, fun x' l' hl' => by rw [hl] at hl'; cases hl'⟩
      · exact kk _ H20 ((mS f5).trans (f511.trans f20)) (Tri.mono r20 (by omega)) (si.mono (by omega))
end
end BL
end

section
set_option Elab.async false
set_option linter.all false
set_option maxRecDepth 100000
set_option maxHeartbeats 4000000
/-! BMz: tests with effects; _law_led. -/
namespace BL
open PySem PySem.Spec PyProof.Rows L2
section
variable {P : Program} {w : World} {K : PySem.W.Frag} {mg : Str → Option Value} {base : Heap} {k : Nat} {T : List (Addr × Str)} {S : List Addr}
variable {X : Cx} {Γ Γ' : Gm} {Φ : MP} {a b c e tg it : Expr} {es : List Expr} {pos p : Pos} {σ : L2.St} {H : Hp} {D : Ends} {st : Stmt} {sts bd el : List Stmt} {C : Addr} {Q : Bool → Hp → Prop} {R : VK}
theorem tt_val (h : tE X e σ H fun v H1 => ∃ b, v = .bl b ∧ Q b H1) (he : ∀ whole, isTrue e X.env whole = (do let v ← whole; standAt e.pos; holding [v] (truthy v)) := by intro _; rfl) : tT X e σ H Q := PTto (pt_val pe_sem he) h
theorem tt_not (h : tT X e σ H fun x H1 => Q (!x) H1) : tT X (.UnaryOp .Not e pos) σ H Q := PTto (pt_not pt_sem) h
theorem tw_or1 (h : tT X a σ H Q) : tW X (.BoolOp .Or [a] pos) σ H Q := PWto (pw_or1 pt_sem) h
theorem tw_and1 (h : tT X a σ H Q) : tW X (.BoolOp .And [a] pos) σ H Q := PWto (pw_and1 pt_sem) h
theorem tw_or (h : tT X a σ H fun x H1 => (x = true → Q true H1) ∧ (x = false → tW X (.BoolOp .Or (b :: es) pos) σ H1 Q)) : tW X (.BoolOp .Or (a :: b :: es) pos) σ H Q :=
  PWto (pw_or pt_sem pw_sem) (tT_mono h fun x H1 hx => by
    cases x with
    | true => exact iteT (hx.1 rfl)
    | false => exact iteF (hx.2 rfl))
/-- the next one is wanted: not a call that gives True -/
theorem tw_orF (h : tE X e σ H fun v H1 => v = .bl true ∧ tW X (.BoolOp .Or (b :: es) pos) σ H1 Q) (he : ∀ whole, isTrue e X.env whole = (do let v ← whole; standAt e.pos; holding [v] (truthy v)) := by intro _; rfl) : tW X (.BoolOp .Or (.UnaryOp .Not e p :: b :: es) pos) σ H Q :=
  tw_or (tt_not (tt_val (tE_mono h fun v H1 ⟨q1, q2⟩ => ⟨true, q1, fun z => (nomatch z), fun _ => q2⟩) he))
theorem tw_orE (h : tE X e σ H fun v H1 => v = .bl true ∧ Q false H1) (he : ∀ whole, isTrue e X.env whole = (do let v ← whole; standAt e.pos; holding [v] (truthy v)) := by intro _; rfl) : tW X (.BoolOp .Or [.UnaryOp .Not e p] pos) σ H Q :=
  tw_or1 (tt_not (tt_val (tE_mono h fun v H1 ⟨q1, q2⟩ => ⟨true, q1, q2⟩) he))
/-- if not a .. or not b ..: return ..; none of it is so -/
theorem tb_ifF (h : tW X c σ H fun x H' => x = false ∧ tB X sts D σ H') : tB X (.If c bd [] pos :: sts) D σ H :=
  tb_if (tT_mono (tT_of_tW h) fun x H1 ⟨q1, q2⟩ => by
    subst q1
    rw [if_neg (by decide)]
    exact tb_nil q2)
theorem tb_ifFT (h : tT X c σ H fun x H' => x = false ∧ tB X sts D σ H') : tB X (.If c bd [] pos :: sts) D σ H :=
  tb_if (tT_mono h fun x H1 ⟨q1, q2⟩ => by
    subst q1
    rw [if_neg (by decide)]
    exact tb_nil q2)
/-- if not e: .., e gives True -/
theorem tb_ifN (h : tE X e σ H fun v H' => v = .bl true ∧ tB X sts D σ H') (he : ∀ whole, isTrue e X.env whole = (do let v ← whole; standAt e.pos; holding [v] (truthy v)) := by intro _; rfl) : tB X (.If (.UnaryOp .Not e p) bd [] pos :: sts) D σ H :=
  tb_ifFT (tt_not (tt_val (tE_mono h fun v H1 ⟨q1, q2⟩ => ⟨true, q1, rfl, q2⟩) he))
/-! ### _law_led -/
def spLed (K : PySem.W.Frag) (T : List (Addr × Str)) (C : Addr) : Sp := fun vs H Q _ => ∃ (m lc lg b o : Addr) (vh : V) (N : Nat) (h : Hl) (r0 : Rl) (n : Nat) (st : Stt) (q : Nat), vs = [.ref m, .ref b, vh, .ref o, .int (q : Int)] ∧ q ≤ 20 ∧ Tri K C m lc lg N b h st o st H ∧ N < 2 ^ 44 ∧ h.Ok ∧ Dp K H vh h.d ∧ StI h r0 n st ∧ n ≤ 320 ∧ LamX.Tabs T H ∧
  ∀ st' H', Fr T [m, lc, lg, b, o] H H' → Tri K C m lc lg (N + 30 * q) b h st' o st' H' → StI h r0 (n + q) st' → Q (.bl true) H'
/-- b shows what is due -/
theorem te_stands {Q : VK} {b o lc lg : Addr} {h : Hl} {r0 : Rl} {n : Nat} {stt : Stt} {eb eh eo : Expr} (hX : In P w K mg base k X) (hgd : X.A.guards = some []) (Fs : EFn P w K mg base 7 "_law_stands" (spStands K C)) (g : GlAt X "_law_stands") (hk : 7 ≤ k) (hb : Ev K X Γ MP.top eb (.r (.ref b))) (hh : Ev K X Γ MP.top eh (.d h.d)) (ho : Ev K X Γ MP.top eo (.r (.ref o)))
    (hs : Slots K σ H Γ) (bk : BkAt K C b h stt H) (ow : OwAt K lc lg o stt H) (ok : h.Ok) (si : StI h r0 n stt) (hn : n ≤ 400) (kk : ∀ H', Same H H' → Q (.bl true) H')
    (s1 : starEach [eb, eh, eo] X.env = (false, eval eb X.env) :: starEach [eh, eo] X.env := by rfl) (s2 : starEach [eh, eo] X.env = (false, eval eh X.env) :: starEach [eo] X.env := by rfl) (s3 : starEach [eo] X.env = (false, eval eo X.env) :: starEach [] X.env := by rfl)
    (hpl : (backTo pos (starEach [eh, eo] X.env)).any (·.1) = false := by rfl) : tE X (.Call (.Name "_law_stands" p) [eb, eh, eo] [] pos) σ H Q := by
  refine te_callG hX hgd Fs g hk (EvA.goT (eva_cons hb (eva_cons hh (eva_cons ho eva_nil s3) s2) s1) hs fun vs H1 e1 h1 => ?_) s1 hpl
  obtain ⟨v1, v2, v3, rfl, q1, q2, q3⟩ := sv3 h1
  cases (show v1 = V.ref b from q1)
  cases (show v3 = V.ref o from q3)
  exact ⟨b, o, lc, lg, v2, h, r0, n, stt, rfl, bk.up e1, ow.up e1, ok, q2, si, hn, fun H' e' => kk H' (e1.trans e')⟩
/-- .. the book read out of something -/
theorem te_standsD {Q : VK} {b o lc lg : Addr} {h : Hl} {r0 : Rl} {n : Nat} {stt : Stt} {eb eh eo : Expr} (hX : In P w K mg base k X) (hgd : X.A.guards = some []) (Fs : EFn P w K mg base 7 "_law_stands" (spStands K C)) (g : GlAt X "_law_stands") (hk : 7 ≤ k) {led : MP} (hb : Ev K X Γ led eb (.r (.ref b))) (hh : Ev K X Γ led eh (.d h.d)) (ho : Ev K X Γ led eo (.r (.ref o)))
    (hs : Slots K σ H Γ) (hled : led.p H) (bk : BkAt K C b h stt H) (ow : OwAt K lc lg o stt H) (ok : h.Ok) (si : StI h r0 n stt) (hn : n ≤ 400) (kk : ∀ H', Same H H' → Q (.bl true) H')
    (s1 : starEach [eb, eh, eo] X.env = (false, eval eb X.env) :: starEach [eh, eo] X.env := by rfl) (s2 : starEach [eh, eo] X.env = (false, eval eh X.env) :: starEach [eo] X.env := by rfl) (s3 : starEach [eo] X.env = (false, eval eo X.env) :: starEach [] X.env := by rfl)
    (hpl : (backTo pos (starEach [eh, eo] X.env)).any (·.1) = false := by rfl) : tE X (.Call (.Name "_law_stands" p) [eb, eh, eo] [] pos) σ H Q := by
  refine te_callG hX hgd Fs g hk ((eva_cons hb (eva_cons hh (eva_cons ho eva_nil s3) s2) s1) σ H _ hs hled fun vs H1 e1 h1 => ?_) s1 hpl
  obtain ⟨v1, v2, v3, rfl, q1, q2, q3⟩ := sv3 h1
  cases (show v1 = V.ref b from q1)
  cases (show v3 = V.ref o from q3)
  exact ⟨b, o, lc, lg, v2, h, r0, n, stt, rfl, bk.up e1, ow.up e1, ok, q2, si, hn, fun H' e' => kk H' (e1.trans e')⟩
theorem f_l_led (tx : Tx mg) (F : FnF K mg "_law_led" s_l_led ["_law_m", "_law_book", "_law_hall_so", "_law_own", "_law_many"]) (Ft : EFn P w K mg base 12 "_law_turn" (spTurn K T C)) (Fs : EFn P w K mg base 7 "_law_stands" (spStands K C)) : EFn P w K mg base 13 "_law_led" (spLed K T C) := by
  refine efn_of F sc_l_led (fun vs H Q E h => by obtain ⟨_, _, _, _, _, _, _, _, _, _, _, _, rfl, _⟩ := h; rfl) (fun X hX hgd hn vs H Q h => ?_) fun vs H Q E h => h
  have Vr := fun (j : Nat) {i : Nat} {x : Str} e => (tab_loc tb_l_led hn (i := i) (x := x) j e).1
  have L := fun (j : Nat) {i : Nat} {x : Str} e => (tab_loc tb_l_led hn (i := i) (x := x) j e).2
  have G := fun (j : Nat) {x : Str} e => tab_glo tb_l_led hn (x := x) j e
  obtain ⟨m, lc, lg, b, o, vh, N, h, r0, n, st, q, rfl, hq, tri, hN, ok, hh, si, hn3, hT, kk⟩ := h
  have s0 : Slots K (L2.start n_l_led [.ref m, .ref b, vh, .ref o, .int (q : Int)]) H [some (.r (.ref m)), some (.r (.ref b)), some (.d h.d), some (.r (.ref o)), some (.d (.int (q : Int))), none] := startS_slots (N := n_l_led) (ss := [.r (.ref m), .r (.ref b), .d h.d, .r (.ref o), .d (.int (q : Int))]) (.cons rfl (.cons rfl (.cons hh (.cons rfl (.cons (.int _) .nil)))))
  refine tb_forR (i := 5) hX (G 0 rfl) tx.range hn.pas (L 5 rfl) (fun i σ H' => ∃ (st' : Stt) (x : Option Sv), Fr T [m, lc, lg, b, o] H H' ∧ Tri K C m lc lg (N + 30 * i) b h st' o st' H' ∧ StI h r0 (n + i) st' ∧ Slots K σ H' [some (.r (.ref m)), some (.r (.ref b)), some (.d h.d), some (.r (.ref o)), some (.d (.int (q : Int))), x]) ?_
  refine Ev.goT (ev_var (Vr 4 rfl) rfl) s0 fun v H1 e1 d1 => ?_
  refine ⟨q, dp_int d1, by omega, ⟨st, none, Fr.same e1, tri.up e1, si, s0.up e1⟩, fun j hj σ2 H2 iv => ?_, fun σ2 H2 iv => ?_⟩
  · obtain ⟨st2, x, f2, tri2, si2, s2⟩ := iv
    have s2' : Slots K (σ2.set 5 (some (.int (j : Int)))) H2 [some (.r (.ref m)), some (.r (.ref b)), some (.d h.d), some (.r (.ref o)), some (.d (.int (q : Int))), some (.d (.int (j : Int)))] := s2.set (i := 5) (s := .d (.int (j : Int))) (.int _)
    have ng : nlG [some (.r (.ref m)), some (.r (.ref b)), some (.d h.d), some (.r (.ref o)), some (.d (.int (q : Int))), some (.d (.int (j : Int)))] := nlG_r (nlG_r (nlG_d (nl_hl h) (nlG_r (nlG_d (nl_int _) (nlG_d (nl_int _) nlG_nil)))))
    refine tb_ifF (tw_orF (te_callG hX hgd Ft (G 1 rfl) (by decide) (EvA.goT (eva_cons (ev_var (Vr 0 rfl) rfl) (eva_cons (ev_var (Vr 1 rfl) rfl) (eva_cons (ev_var (Vr 2 rfl) rfl) (eva_cons (ev_var (Vr 3 rfl) rfl) eva_nil)))) s2' fun vs H3 e3 h3 => ?_)))
    obtain ⟨v1, v2, v3, v4, rfl, q1, q2, q3, q4⟩ := sv4 h3
    cases (show v1 = V.ref m from q1)
    cases (show v2 = V.ref b from q2)
    cases (show v4 = V.ref o from q4)
    refine ⟨m, lc, lg, b, o, v3, N + 30 * j, h, r0, n + j, st2, rfl, tri2.up e3, by omega, ok, q3, si2, by omega, (f2.trans (Fr.same e3)).tabs hT, fun st3 H4 f4 tri4 si4 => ⟨rfl, ?_⟩⟩
    have s4 := (s2'.up e3).fr f4 ng
    refine tw_orE (te_stands hX hgd Fs (G 2 rfl) (by decide) (ev_var (Vr 1 rfl) rfl) (ev_var (Vr 2 rfl) rfl) (ev_var (Vr 3 rfl) rfl) s4 tri4.bk tri4.ow ok si4 (by omega) fun H5 e5 => ⟨rfl, rfl, tb_nil ?_⟩)
    exact ⟨st3, _, f2.trans ((Fr.same e3).trans (f4.trans (Fr.same e5))), (tri4.up e5).mono (by omega), si4, s4.up e5⟩
  · obtain ⟨st2, x, f2, tri2, si2, s2⟩ := iv
    exact tb_ret (K := K) (Γ := [some (.r (.ref m)), some (.r (.ref b)), some (.d h.d), some (.r (.ref o)), some (.d (.int (q : Int))), x]) (Φ := MP.top) (s := .d (.bool true)) ev_bl s2 trivial fun v H3 e3 d3 => by
      rw [dp_bl d3]
      exact kk st2 H3 (f2.trans (Fr.same e3)) (tri2.up e3) si2
end
end BL
end

section
set_option Elab.async false
set_option linter.all false
set_option maxRecDepth 100000
set_option maxHeartbeats 4000000
/-! BNa: _law_inner. -/
namespace BL
open PySem PySem.Spec PyProof.Rows L2
abbrev n_inner : List Str := ["_law_m", "_law_led_so", "_law_held", "_law_hall_so", "_law_way", "_law_own", "_law_fresh", "_law_told_so", "_law_one"]
theorem sc_inner : FnScope n_inner ["_law_m", "_law_led_so", "_law_held", "_law_hall_so", "_law_way"] (defScope s_l_inner) := ⟨rfl, rfl, rfl, by decide +kernel, rfl, by decide +kernel, by decide +kernel⟩
theorem tb_inner : tabB n_inner (defScope s_l_inner) [(0, "_law_m"), (1, "_law_led_so"), (2, "_law_held"), (3, "_law_hall_so"), (4, "_law_way"), (5, "_law_own"), (6, "_law_fresh"), (7, "_law_told_so")] ["_law_led", "_law_stands", "_law_twin_of", "under"] = true := by decide +kernel
/-- a frame over things of which the new ones do not count -/
theorem Fr.drop {T : List (Addr × Str)} {S S2 : List Addr} {H H1 H2 : Hp} (f1 : Fr T S H H1) (f2 : Fr T S2 H1 H2) (h : ∀ x ∈ S2, x ∈ S ∨ H x = none) : Fr T S H H2 :=
  ⟨fun b o e q => f2.tup b o (f1.tup b o e q) q, fun b o e n t => f2.keep b o (f1.keep b o e n t) (fun z => (h b z).elim n fun y => by rw [y] at e; cases e) t, fun t => f2.tabs (f1.tabs t)⟩
section
variable {P : Program} {w : World} {K : PySem.W.Frag} {mg : Str → Option Value} {base : Heap} {k : Nat} {T : List (Addr × Str)} {S : List Addr}
variable {X : Cx} {Γ Γ' : Gm} {Φ : MP} {a b c e tg it : Expr} {es : List Expr} {pos p : Pos} {σ : L2.St} {H : Hp} {D : Ends} {st : Stmt} {sts bd el : List Stmt} {C DT B fI cc cda : Addr} {fdI : FuncData} {W : WX}
/-- a def of the module that may raise -/
def EFnX (P : Program) (w : World) (K : PySem.W.Frag) (mg : Str → Option Value) (base : Heap) (j : Nat) (x : Str) (sp : Sp) : Prop :=
  ∃ (f : Addr) (fd : FuncData) (ps : List Str), mg x = some (.ref f) ∧ PySem.W.keepIn K (.ref f) = true ∧ Binds K fd ps [] ∧ FnG P w K mg base (L2.CX P w) j f fd ps sp
theorem te_callGX {x : Str} {j : Nat} {sp : Sp} {Q : VK} {E : XK} (hX : In P w K mg base k X) (hgd : X.A.guards = some []) (tk : Takes X W) (hE : ∀ cls d σ H, E cls d H → W cls d σ H) (F : EFnX P w K mg base j x sp) (g : GlAt X x) (hj : j ≤ k) (h : tA X (e :: es) σ H fun vs H1 => sp vs H1 Q E)
    (he : starEach (e :: es) X.env = (false, eval e X.env) :: starEach es X.env := by rfl) (hpl : (backTo pos (starEach es X.env)).any (·.1) = false := by rfl) : tE X (.Call (.Name x p) (e :: es) [] pos) σ H Q := by
  obtain ⟨f, fd, ps, hm, kp, hb, F⟩ := F
  have F' : FnG X.prog X.w X.K X.mg X.base (L2.CX X.prog X.w) j f fd ps sp := by rw [hX.prog, hX.w, hX.K, hX.mg, hX.base]; exact F
  exact PEto (pe_callG F' hgd (hX.room.mono hj) g.1 (by rw [hX.mg]; exact hm) (by rw [hX.K]; exact kp) (by rw [hX.K]; exact hb) (passes_call tk hE) pa_sem g.2.1 he hpl) h
/-- THE RULE for such a def -/
theorem efnx_of {x : Str} {N ps : List Str} {sp : Sp} (F : FnF K mg x st ps) (S : FnScope N ps (defScope st)) (hl : ∀ vs H Q E, sp vs H Q E → vs.length = ps.length)
    (body : ∀ X, In P w K mg base k X → X.A.guards = some [] → Nm N (defScope st) X → ∀ vs H Q E, Takes X (fun cls d _ H => E cls d H) → sp vs H Q E → tB X (defBody st) { nx := fun _ H' => Q .non H', rt := Q } (L2.start N vs) H) : EFnX P w K mg base (k + 1) x sp := by
  obtain ⟨f, fd, F, hb, hm⟩ := F
  obtain ⟨oc, od, kV, doc, pm, an, cdv, ct, osl, rfl, lk, hcd⟩ := F.ex
  refine ⟨f, _, ps, hm, F.kp, hb, hl, fun A outer s H args us vs Q E g hr e0 hb' r h => ?_⟩
  refine LamX.run_ofS lk hcd S hr e0 hb' r (hl _ _ _ _ h) fun hr' => ?_
  exact ⟨_, pb_sem, body (cxOf (L2.CX P w) P w K mg base N x (defScope st) f cdv A outer s H E) ⟨rfl, rfl, rfl, rfl, rfl, rfl, hr', S.nd⟩ g ⟨rfl, rfl, fun _ => rfl, passes_of rfl⟩ vs H Q E (takes_of rfl rfl rfl rfl) h⟩
/-- THE RULE for a def that makes lambdas, with the frame -/
theorem efn_ofLS {x : Str} {N ps : List Str} {sp : Sp} (F : LamF K mg base T x st ps) (S : FnScope N ps (defScope st)) (hl : ∀ vs H Q E, sp vs H Q E → vs.length = ps.length)
    (body : ∀ X, In P w K mg base k X → X.A.guards = some [] → Nm N (defScope st) X → (∃ c Pt, LamM T X c Pt) → X.stack = X.env :: X.outer → X.env.frame = some X.env.locals → ∀ vs H Q, sp vs H Q E0 → tB X (defBody st) { nx := fun _ H' => Q .non H', rt := Q } (L2.start N vs) H) (hE : ∀ vs H Q E, sp vs H Q E → sp vs H Q E0) : EFn P w K mg base (k + 1) x sp := by
  obtain ⟨f, c, Pt, fd, F, hb, hm, hc, TB, mT, uT⟩ := F
  obtain ⟨oc, od, kV, doc, pm, an, cdv, ct, osl, rfl, lk, hcd⟩ := F.ex
  refine ⟨f, _, ps, hm, F.kp, hb, hl, fun A outer s H args us vs Q E g hr e0 hb' r h => ?_⟩
  refine LamX.run_ofS lk hcd S hr e0 hb' r (hl _ _ _ _ h) fun hr' => ?_
  exact ⟨_, (pb_sem).nox, body _ (nm_inX hr' S.nd) g ⟨rfl, rfl, fun _ => rfl, PassesOwn.never⟩ ⟨c, Pt, TB, hc, mT, uT⟩ rfl rfl vs H Q (hE _ _ _ _ h)⟩
/-- the record of a led book -/
def LedD (d b o m : Addr) (H : Hp) : Prop := H d = some (.dK [(.inr "book", .ref b), (.inr "inner", .ref o)]) ∧ d ≠ m ∧ d ≠ o
def LedP (d b o m : Addr) : MP := ⟨LedD d b o m, fun e q => ⟨e _ _ q.1, q.2⟩⟩
theorem LedD.fr {d b o m lc lg : Addr} {N : Nat} {h : Hl} {stt su : Stt} {H H' : Hp} (q : LedD d b o m H) (t : Tri K C m lc lg N b h stt o su H) (f : Fr T [m, lc, lg, b, o] H H') : LedD d b o m H' := by
  refine ⟨f.at q.1 fun z => ?_, q.2⟩
  obtain ⟨⟨_, _, h1, h2⟩, ⟨_, h3⟩, ⟨_, _, h4⟩, _⟩ := t.kinds
  have h0 := q.1
  simp only [List.mem_cons, List.not_mem_nil, or_false] at z
  rcases z with z | z | z | z | z
  · exact q.2.1 z
  · rw [z, h2] at h0; cases h0
  · rw [z, h3] at h0; cases h0
  · rw [z, h4] at h0; cases h0
  · exact q.2.2 z
/-- a block that raises nothing -/
def spInner (K : PySem.W.Frag) (T : List (Addr × Str)) (C : Addr) : Sp := fun vs H Q _ => ∃ (m lc lg b o d : Addr) (vh : V) (N : Nat) (h : Hl) (r0 : Rl) (n : Nat) (st : Stt) (way : Int), vs = [.ref m, .ref d, .ref b, vh, .int way] ∧ way ≠ 1 ∧ Tri K C m lc lg N b h st o st H ∧ LedD d b o m H ∧ N < 2 ^ 43 ∧ h.Ok ∧ Dp K H vh h.d ∧ StI h r0 n st ∧ n ≤ 300 ∧ LamX.Tabs T H ∧
  ∀ st' H', Fr T [m, lc, lg, b, o] H H' → Tri K C m lc lg (N + 200) b h st' o st' H' → StI h r0 (n + 3) st' → Q (.str "right") H'
/-- a block that raises -/
def spInnerX (K : PySem.W.Frag) (T : List (Addr × Str)) (C B : Addr) : Sp := fun vs H _ E => ∃ (m lc lg b o d : Addr) (vh : V) (N : Nat) (h : Hl) (r0 : Rl) (n : Nat) (st : Stt), vs = [.ref m, .ref d, .ref b, vh, .int 1] ∧ Tri K C m lc lg N b h st o st H ∧ LedD d b o m H ∧ N < 2 ^ 43 ∧ h.Ok ∧ Dp K H vh h.d ∧ StI h r0 n st ∧ n ≤ 300 ∧ LamX.Tabs T H ∧
  ∀ st' H' dx, Fr T [m, lc, lg, b, o] H H' → Tri K C m lc lg (N + 200) b h st' o st' H' → StI h r0 (n + 3) st' → E (.ref B) (some dx) H'
theorem f_innerX (tx : Tx mg) (BB : BookF K mg C) (BF : BadF P K mg B fI cc cda fdI) (bdI : Binds K fdI ["self", "place"] []) (F : FnF K mg "_law_inner" s_l_inner ["_law_m", "_law_led_so", "_law_held", "_law_hall_so", "_law_way"]) (Fl : EFn P w K mg base 13 "_law_led" (spLed K T C)) (Fs : EFn P w K mg base 7 "_law_stands" (spStands K C)) (Fw : PFn P w K mg base 1 "is_whole" R_whole) : EFnX P w K mg base 18 "_law_inner" (spInnerX K T C B) := by
  refine efnx_of F sc_inner (fun vs H Q E h => by obtain ⟨_, _, _, _, _, _, _, _, _, _, _, _, rfl, _⟩ := h; rfl) (fun X hX hgd hn vs H Q E tk h => ?_)
  have Vr := fun (j : Nat) {i : Nat} {x : Str} e => (tab_loc tb_inner hn (i := i) (x := x) j e).1
  have L := fun (j : Nat) {i : Nat} {x : Str} e => (tab_loc tb_inner hn (i := i) (x := x) j e).2
  have G := fun (j : Nat) {x : Str} e => tab_glo tb_inner hn (x := x) j e
  obtain ⟨m, lc, lg, b, o, d, vh, N, h, r0, n, st, rfl, tri, led, hN, ok, hh, si, hn3, hT, kk⟩ := h
  have s0 : Slots K (L2.start n_inner [.ref m, .ref d, .ref b, vh, .int 1]) H [some (.r (.ref m)), some (.r (.ref d)), some (.r (.ref b)), some (.d h.d), some (.d (.int 1)), none, none, none, none] := startS_slots (N := n_inner) (ss := [.r (.ref m), .r (.ref d), .r (.ref b), .d h.d, .d (.int 1)]) (.cons rfl (.cons rfl (.cons rfl (.cons hh (.cons (.int _) .nil)))))
  refine tb_pure (Φ := LedP d b o m) (runS_set (s := .r (.ref o)) hX (L 5 rfl) (ev_dget (kvs := [(.inr "book", .ref b), (.inr "inner", .ref o)]) hX (ev_var (Vr 1 rfl) rfl) ev_str (fun H q => q.1) rfl)) s0 led fun σ1 H1 e1 s1 => ?_
  have tri1 := tri.up e1
  have led1 : LedD d b o m H1 := (LedP d b o m).up e1 led
  have s1' : Slots K σ1 H1 [some (.r (.ref m)), some (.r (.ref d)), some (.r (.ref b)), some (.d h.d), some (.d (.int 1)), some (.r (.ref o)), none, none, none] := s1
  have ng : nlG [some (.r (.ref m)), some (.r (.ref d)), some (.r (.ref b)), some (.d h.d), some (.d (.int 1)), some (.r (.ref o)), none, none, none] := nlG_r (nlG_r (nlG_r (nlG_d (nl_hl h) (nlG_d (nl_int _) (nlG_r (nlG_none (nlG_none (nlG_none nlG_nil))))))))
  refine tb_ifF (tw_orF (te_callG hX hgd Fl (G 0 rfl) (by decide) (EvA.goT (eva_cons (ev_var (Vr 0 rfl) rfl) (eva_cons (ev_var (Vr 2 rfl) rfl) (eva_cons (ev_var (Vr 3 rfl) rfl) (eva_cons (ev_var (Vr 5 rfl) rfl) (eva_cons ev_int eva_nil))))) s1' fun vs H2 e2 h2 => ?_)))
  obtain ⟨v1, v2, v3, v4, v5, rfl, q1, q2, q3, q4, q5⟩ := sv5 h2
  cases (show v1 = V.ref m from q1)
  cases (show v2 = V.ref b from q2)
  cases (show v4 = V.ref o from q4)
  cases dp_int q5
  refine ⟨m, lc, lg, b, o, v3, N, h, r0, n, st, 3, rfl, by decide, tri1.up e2, by omega, ok, q3, si, by omega, (Fr.same (T := T) (S := []) (e1.trans e2)).tabs hT, fun st3 H3 f3 tri3 si3 => ⟨rfl, ?_⟩⟩
  have s3 := (s1'.up e2).fr f3 ng
  have led3 : LedD d b o m H3 := LedD.fr ((LedP d b o m).up e2 led1) (tri1.up e2) f3
  have bk3 : ∀ {σ : L2.St} {Γ : Gm}, True := trivial
  refine tw_orE (te_standsD (led := LedP d b o m) (hb := ev_dget (kvs := [(.inr "book", .ref b), (.inr "inner", .ref o)]) hX (ev_var (Vr 1 rfl) rfl) ev_str (fun H q => q.1) rfl) hX hgd Fs (G 1 rfl) (by decide) (ev_var (Vr 3 rfl) rfl) (ev_var (Vr 5 rfl) rfl) s3 led3 tri3.bk tri3.ow ok si3 (by omega) fun H4 e4 => ⟨rfl, rfl, ?_⟩)
  have s4 := s3.up e4
  have tri4 := tri3.up e4
  refine tb_ifP (Φ := MP.top) (x := true) (EvT.to (evt_eq hX (ev_var (Vr 4 rfl) rfl) ev_int) rfl) s4 trivial (fun _ H5 e5 => ?_) (fun z => nomatch z)
  have tri5 := tri4.up e5
  obtain ⟨w1, w2, w3, bk5⟩ := id tri5.bk
  obtain ⟨fc, fdc, mc⟩ := BB.call
  refine tb_drop (te_methX (E := E) (Φ := BkVp K C b h st3 w1 w2 w3) (fs := fsB w1 w2 w3) hX tk (fun _ _ _ _ z => z) BB.cls mc.mt (f_bcallX tx BB BF bdI mc.fn Fw) mc.bd (by decide) (ev_var (Vr 2 rfl) rfl) (s4.up e5) bk5 (fun H q => q.i) rfl fun H6 e6 => ta_cons (Ev.goT ev_str ((s4.up e5).up e6) fun u H7 e7 d7 => ta_nil ?_))
  cases dp_str d7
  have tri7 := (tri5.up e6).up e7
  refine ⟨b, h, st3, _, rfl, tri7.bk, fun dx H8 e8 hd8 => ?_⟩
  exact kk st3 H8 dx ((Fr.same (e1.trans e2)).trans (f3.trans (Fr.same ((((e4.trans e5).trans e6).trans e7).trans e8)))) ((tri7.up e8).mono (by omega)) si3
end
end BL
end

section
set_option Elab.async false
set_option linter.all false
set_option maxRecDepth 100000
set_option maxHeartbeats 4000000
/-! BNb: _law_inner, nothing raised. -/
namespace BL
open PySem PySem.Spec PyProof.Rows L2
section
variable {K : PySem.W.Frag} {C m lc lg b o x : Addr} {N N' : Nat} {h : Hl} {st st' su su' : Stt} {H H' : Hp} {T : List (Addr × Str)}
/-- an instance that is not the book is changed -/
theorem Tri.fx (t : Tri K C m lc lg N b h st o su H) (f : Fr T [x] H H') (hx : ∃ C' d fs, H x = some (.ins C' d fs)) (ne : b ≠ x) : Tri K C m lc lg N b h st o su H' := by
  obtain ⟨⟨_, _, h1, h2⟩, ⟨_, h3⟩, _, ⟨_, h4⟩⟩ := t.kinds
  obtain ⟨C', d, fs, h5⟩ := hx
  have n1 : m ≠ x := fun z => by rw [← z, h1] at h5; cases h5
  have n2 : lc ≠ x := fun z => by rw [← z, h2] at h5; cases h5
  have n3 : lg ≠ x := fun z => by rw [← z, h3] at h5; cases h5
  have n4 : o ≠ x := fun z => by rw [← z, h4] at h5; cases h5
  exact ⟨t.ma.fr f (by simp [n1]) (by simp [n2]) (by simp [n3]), t.bk.fr f (by simp [ne]), t.ow.fr f (by simp [n4]) (fun a ha => .inr (.inr fun xs q => by rw [List.mem_singleton.mp ha, h5] at q; cases q)), t.ne⟩
theorem TrEx.ins {D t : Addr} (q : TrEx D t b H) : ∃ C' d fs, H t = some (.ins C' d fs) := by
  obtain ⟨_, _, dx, i⟩ := q
  exact ⟨_, _, _, i⟩
theorem TrAt.ex {D t : Addr} (q : TrAt K D t b st H) : TrEx D t b H := by
  obtain ⟨v2, v3, i, _⟩ := q
  exact ⟨v2, v3, i⟩
/-- a trial is none of what a book's deeds change -/
theorem TrEx.out {D t : Addr} (q : TrEx D t b H) (ne : b ≠ t) (tr : Tri K C m lc lg N b h st o su H) : t ∉ [m, lc, lg, b, o] := fun z => by
  obtain ⟨⟨_, _, h1, h2⟩, ⟨_, h3⟩, _, ⟨_, h4⟩⟩ := tr.kinds
  obtain ⟨C', d, fs, h5⟩ := q.ins
  simp only [List.mem_cons, List.not_mem_nil, or_false] at z
  rcases z with z | z | z | z | z
  · rw [z, h1] at h5; cases h5
  · rw [z, h2] at h5; cases h5
  · rw [z, h3] at h5; cases h5
  · exact ne z.symm
  · rw [z, h4] at h5; cases h5
/-- the other record of the same machine -/
theorem Tri.other {q : Addr} (t : Tri K C m lc lg N b h st o su H) (f : Fr T [m, lc, lg, b, q] H H') (hq : ∃ kvs, H q = some (.dK kvs)) (ne : o ≠ q) : OwAt K lc lg o su H' := by
  obtain ⟨⟨_, _, h1, h2⟩, ⟨_, h3⟩, ⟨_, _, h4⟩, ⟨_, h5⟩⟩ := t.kinds
  obtain ⟨_, hq⟩ := hq
  refine t.ow.fr f (fun z => ?_) fun a ha => ?_
  · simp only [List.mem_cons, List.not_mem_nil, or_false] at z
    rcases z with z | z | z | z | z
    · exact t.ne z
    · rw [z, h2] at h5; cases h5
    · rw [z, h3] at h5; cases h5
    · rw [z, h4] at h5; cases h5
    · exact ne z
  · simp only [List.mem_cons, List.not_mem_nil, or_false] at ha
    rcases ha with z | z | z | z | z
    · exact .inr (.inr fun xs y => by rw [z, h1] at y; cases y)
    · exact .inl z
    · exact .inr (.inl z)
    · exact .inr (.inr fun xs y => by rw [z, h4] at y; cases y)
    · exact .inr (.inr fun xs y => by rw [z, hq] at y; cases y)
end
section
variable {P : Program} {w : World} {K : PySem.W.Frag} {mg : Str → Option Value} {base : Heap} {k : Nat} {T : List (Addr × Str)} {S : List Addr}
variable {C DT : Addr}
theorem f_inner (tx : Tx mg) (BB : BookF K mg C) (BT : TrialF K mg DT) (F : LamF K mg base T "_law_inner" s_l_inner ["_law_m", "_law_led_so", "_law_held", "_law_hall_so", "_law_way"]) (Fu : FnF K mg "under" s_under ["manager", "deed"]) (Fl : EFn P w K mg base 13 "_law_led" (spLed K T C)) (Fs : EFn P w K mg base 7 "_law_stands" (spStands K C))
    (Ftw : EFn P w K mg base 1 "_law_twin_of" (spTwin K)) : EFn P w K mg base 18 "_law_inner" (spInner K T C) := by
  refine efn_ofL F sc_inner (fun vs H Q E h => by obtain ⟨_, _, _, _, _, _, _, _, _, _, _, _, _, rfl, _⟩ := h; rfl) (fun X hX hgd hn ⟨cM, PM, M⟩ vs H Q h => ?_) fun vs H Q E h => h
  have Vr := fun (j : Nat) {i : Nat} {x : Str} e => (tab_loc tb_inner hn (i := i) (x := x) j e).1
  have L := fun (j : Nat) {i : Nat} {x : Str} e => (tab_loc tb_inner hn (i := i) (x := x) j e).2
  have G := fun (j : Nat) {x : Str} e => tab_glo tb_inner hn (x := x) j e
  obtain ⟨m, lc, lg, b, o, d, vh, N, h, r0, n, st, way, rfl, hw, tri, led, hN, ok, hh, si, hn3, hT, kk⟩ := h
  have s0 : Slots K (L2.start n_inner [.ref m, .ref d, .ref b, vh, .int way]) H [some (.r (.ref m)), some (.r (.ref d)), some (.r (.ref b)), some (.d h.d), some (.d (.int way)), none, none, none, none] := startS_slots (N := n_inner) (ss := [.r (.ref m), .r (.ref d), .r (.ref b), .d h.d, .d (.int way)]) (.cons rfl (.cons rfl (.cons rfl (.cons hh (.cons (.int _) .nil)))))
  refine tb_pure (Φ := LedP d b o m) (runS_set (s := .r (.ref o)) hX (L 5 rfl) (ev_dget (kvs := [(.inr "book", .ref b), (.inr "inner", .ref o)]) hX (ev_var (Vr 1 rfl) rfl) ev_str (fun H q => q.1) rfl)) s0 led fun σ1 H1 e1 s1 => ?_
  have tri1 := tri.up e1
  have led1 : LedD d b o m H1 := (LedP d b o m).up e1 led
  have s1' : Slots K σ1 H1 [some (.r (.ref m)), some (.r (.ref d)), some (.r (.ref b)), some (.d h.d), some (.d (.int way)), some (.r (.ref o)), none, none, none] := s1
  have ng : nlG [some (.r (.ref m)), some (.r (.ref d)), some (.r (.ref b)), some (.d h.d), some (.d (.int way)), some (.r (.ref o)), none, none, none] := nlG_r (nlG_r (nlG_r (nlG_d (nl_hl h) (nlG_d (nl_int _) (nlG_r (nlG_none (nlG_none (nlG_none nlG_nil))))))))
  refine tb_ifF (tw_orF (te_callG hX hgd Fl (G 0 rfl) (by decide) (EvA.goT (eva_cons (ev_var (Vr 0 rfl) rfl) (eva_cons (ev_var (Vr 2 rfl) rfl) (eva_cons (ev_var (Vr 3 rfl) rfl) (eva_cons (ev_var (Vr 5 rfl) rfl) (eva_cons ev_int eva_nil))))) s1' fun vs H2 e2 h2 => ?_)))
  obtain ⟨v1, v2, v3, v4, v5, rfl, q1, q2, q3, q4, q5⟩ := sv5 h2
  cases (show v1 = V.ref m from q1)
  cases (show v2 = V.ref b from q2)
  cases (show v4 = V.ref o from q4)
  cases dp_int q5
  refine ⟨m, lc, lg, b, o, v3, N, h, r0, n, st, 3, rfl, by decide, tri1.up e2, by omega, ok, q3, si, by omega, (Fr.same (T := T) (S := []) (e1.trans e2)).tabs hT, fun st3 H3 f3 tri3 si3 => ⟨rfl, ?_⟩⟩
  have s3 := (s1'.up e2).fr f3 ng
  have led3 : LedD d b o m H3 := LedD.fr ((LedP d b o m).up e2 led1) (tri1.up e2) f3
  refine tw_orE (te_standsD (led := LedP d b o m) (hb := ev_dget (kvs := [(.inr "book", .ref b), (.inr "inner", .ref o)]) hX (ev_var (Vr 1 rfl) rfl) ev_str (fun H q => q.1) rfl) hX hgd Fs (G 1 rfl) (by decide) (ev_var (Vr 3 rfl) rfl) (ev_var (Vr 5 rfl) rfl) s3 led3 tri3.bk tri3.ow ok si3 (by omega) fun H4 e4 => ⟨rfl, rfl, ?_⟩)
  have s4 := s3.up e4
  have tri4 := tri3.up e4
  have f4 : Fr T [m, lc, lg, b, o] H H4 := (Fr.same (e1.trans e2)).trans (f3.trans (Fr.same e4))
  refine tb_ifP (Φ := MP.top) (x := decide (way = 1)) (EvT.to (evt_eq hX (ev_var (Vr 4 rfl) rfl) ev_int) (eqv_int way 1)) s4 trivial (fun z => absurd (of_decide_eq_true z) hw) fun _ H5 e5 => tb_nil ?_
  have s5 := s4.up e5
  have tri5 := tri4.up e5
  have f5 := f4.trans (Fr.same e5)
  refine tb_ifP (Φ := MP.top) (x := decide (way = 2)) (EvT.to (evt_eq hX (ev_var (Vr 4 rfl) rfl) ev_int) (eqv_int way 2)) s5 trivial (fun _ H6 e6 => ?_) fun _ H6 e6 => tb_nil ?_
  · have tri6 := tri5.up e6
    have s6 := s5.up e6
    refine tb_set hX (L 6 rfl) (te_callG hX hgd Ftw (G 2 rfl) (by decide) (ta_cons (Ev.goT (ev_var (Vr 5 rfl) rfl) s6 fun v H7 e7 d7 => ta_nil ?_)))
    cases (show v = V.ref o from d7)
    have tri7 := tri6.up e7
    refine ⟨lc, lg, o, st3, rfl, tri7.ow, tri7.lcs.1, tri7.lcs.2, fun q H8 hq e8 owq => ?_⟩
    have tri8 := tri7.up e8
    have s8 : Slots K (σ1.set 6 (some (.ref q))) H8 [some (.r (.ref m)), some (.r (.ref d)), some (.r (.ref b)), some (.d h.d), some (.d (.int way)), some (.r (.ref o)), some (.r (.ref q)), none, none] := ((s6.up e7).up e8).set (i := 6) (s := .r (.ref q)) rfl
    have ng8 : nlG [some (.r (.ref m)), some (.r (.ref d)), some (.r (.ref b)), some (.d h.d), some (.d (.int way)), some (.r (.ref o)), some (.r (.ref q)), none, none] := nlG_r (nlG_r (nlG_r (nlG_d (nl_hl h) (nlG_d (nl_int _) (nlG_r (nlG_r (nlG_none (nlG_none nlG_nil))))))))
    have f8 := f5.trans (Fr.same ((e6.trans e7).trans e8))
    have q5 : H5 q = none := same_dn (e6.trans e7) hq
    have nqo : o ≠ q := fun z => by
      obtain ⟨kvs, y⟩ := tri7.ow.is
      rw [z, hq] at y; cases y
    have nqm : q ≠ m := fun z => by
      obtain ⟨⟨_, _, y, _⟩, _⟩ := tri7.kinds
      rw [← z, hq] at y; cases y
    have tq8 : Tri K C m lc lg (N + 30 * 3) b h st3 q st3 H8 := ⟨tri8.ma, tri8.bk, owq, nqm⟩
    obtain ⟨e1', e2', e3', e4'⟩ := hn
    obtain ⟨ft, fdt, mt⟩ := BB.trial
    refine tb_set hX (L 7 rfl) (te_under (j := 8) (y := "_law_one") (m := 13) hX hgd BB BT Fu (G 3 rfl) M (by decide) (by rw [e1', e2']; exact lamP_by (by decide +kernel)) rfl (fun _ _ _ _ _ _ => rfl) (te_meth0 (Φ := BkVp K C b h st3 _ _ _) (fs := fsB _ _ _) hX BB.cls mt.mt (f_btrial (T := T) BT mt.fn) mt.bd (by decide) (ev_var (Vr 2 rfl) rfl) s8 tri8.bk.choose_spec.choose_spec.choose_spec (fun H q => q.i) rfl fun H9 e9 => ?_))
    refine ⟨b, rfl, fun t H10 ht f10 tr => ⟨?_, fun H11 eN T11 => ?_⟩⟩
    · exact f10.tabs ((f8.trans (Fr.same e9)).tabs hT)
    · have f11 : Fr T [] H10 H11 := Fr.ext eN T11
      have tq11 := ((tq8.up e9).f0 f10).f0 f11
      have tri11 := ((tri8.up e9).f0 f10).f0 f11
      have tr11 : TrEx DT t b H11 := tr.fr f11 (by simp)
      have nbt : b ≠ t := fun z => by
        obtain ⟨_, _, ⟨_, _, y⟩, _⟩ := (tq8.up e9).kinds
        rw [z, ht] at y; cases y
      have t5 : H5 t = none := same_dn (((e6.trans e7).trans e8).trans e9) ht
      refine ⟨t, b, h, st3, rfl, tr11, tq11.bk, nbt, fun H12 f12 trA bkA Y hY => ?_⟩
      have hY' : LamB P w K mg base 13 n_inner _ Y := e1' ▸ hY
      have tq12 := tq11.fx f12 tr11.ins nbt
      have tri12 := tri11.fx f12 tr11.ins nbt
      have s12z := (((s8.up e9).fr f10 ng8).fr f11 ng8).fr f12 ng8
      have s12 : Slots K ((σ1.set 6 (some (.ref q))).set 8 (some (.ref b))) H12 [some (.r (.ref m)), some (.r (.ref d)), some (.r (.ref b)), some (.d h.d), some (.d (.int way)), some (.r (.ref o)), some (.r (.ref q)), none, some (.r (.ref b))] := s12z.set (i := 8) (s := .r (.ref b)) rfl
      refine te_callG hY'.i hY'.g Fl (lv_glo (vs := [(0, "_law_m"), (8, "_law_one"), (3, "_law_hall_so"), (6, "_law_fresh")]) (gs := ["_law_led"]) (by decide +kernel) hY' 0 rfl) (by decide) (EvA.goT (eva_cons (ev_var (lv_var (vs := [(0, "_law_m"), (8, "_law_one"), (3, "_law_hall_so"), (6, "_law_fresh")]) (gs := ["_law_led"]) (by decide +kernel) hY' 0 rfl) rfl) (eva_cons (ev_var (lv_var (vs := [(0, "_law_m"), (8, "_law_one"), (3, "_law_hall_so"), (6, "_law_fresh")]) (gs := ["_law_led"]) (by decide +kernel) hY' 1 rfl) rfl) (eva_cons (ev_var (lv_var (vs := [(0, "_law_m"), (8, "_law_one"), (3, "_law_hall_so"), (6, "_law_fresh")]) (gs := ["_law_led"]) (by decide +kernel) hY' 2 rfl) rfl) (eva_cons (ev_var (lv_var (vs := [(0, "_law_m"), (8, "_law_one"), (3, "_law_hall_so"), (6, "_law_fresh")]) (gs := ["_law_led"]) (by decide +kernel) hY' 3 rfl) rfl) (eva_cons ev_int eva_nil))))) s12 fun vs H13 e13 h13 => ?_)
      obtain ⟨v1, v2, v3, v4, v5, rfl, q1, q2, q3, q4, q5'⟩ := sv5 h13
      cases (show v1 = V.ref m from q1)
      cases (show v2 = V.ref b from q2)
      cases (show v4 = V.ref q from q4)
      cases dp_int q5'
      have tq13 := tq12.up e13
      have g1 : Fr T [m, lc, lg, b, o] H5 H11 := (Fr.same (((e6.trans e7).trans e8).trans e9)).trans ((f10.mono fun _ z => nomatch z).trans (f11.mono fun _ z => nomatch z))
      have g3 := (g1.drop f12 fun x hx => .inr (by rw [List.mem_singleton.mp hx]; exact t5)).trans (Fr.same e13)
      refine ⟨m, lc, lg, b, q, v3, N + 30 * 3, h, r0, n + 3, st3, 2, rfl, by decide, tq13, by omega, ok, q3, si3, by omega, (f5.trans g3).tabs hT, fun st4 H14 f14 tq14 si4 => ?_⟩
      have trA13 := trA.fr (Fr.same (T := T) (S := []) e13) (by simp)
      refine ⟨st4, trA13.fr f14 (trA13.ex.out nbt tq13), tq14.bk, fun H15 f15 bk15 => ?_⟩
      have o14 : OwAt K lc lg o st3 H14 := (tri12.up e13).other f14 tq13.ow.is nqo
      have tri15 : Tri K C m lc lg (N + 30 * 3 + 30 * 2) b h st3 o st3 H15 := Tri.fb (T := T) ⟨tq14.ma, tq14.bk, o14, tri8.ne⟩ f15 bk15
      have g4 : Fr T [m, lc, lg, b, o] H5 H14 := g3.drop f14 fun x hx => by
        simp only [List.mem_cons, List.not_mem_nil, or_false] at hx ⊢
        rcases hx with z | z | z | z | z
        · exact .inl (.inl z)
        · exact .inl (.inr (.inl z))
        · exact .inl (.inr (.inr (.inl z)))
        · exact .inl (.inr (.inr (.inr (.inl z))))
        · exact .inr (by rw [z]; exact q5)
      have g5 : Fr T [m, lc, lg, b, o] H5 H15 := g4.trans (f15.mono fun x hx => by rw [List.mem_singleton.mp hx]; simp)
      have s15 : Slots K ((σ1.set 6 (some (.ref q))).set 7 (some (.bl true))) H15 [some (.r (.ref m)), some (.r (.ref d)), some (.r (.ref b)), some (.d h.d), some (.d (.int way)), some (.r (.ref o)), some (.r (.ref q)), some (.d (.bool true)), none] := (((s12z.up e13).fr f14 ng8).fr f15 ng8).set (i := 7) (s := .d (.bool true)) (.bl true)
      refine tb_ifF (tw_orF (Ev.goT (s := .d (.bool true)) (ev_var (Vr 7 rfl) rfl) s15 fun v H16 e16 d16 => ⟨dp_bl d16, ?_⟩))
      refine tw_orE (te_stands hX hgd Fs (G 1 rfl) (by decide) (ev_var (Vr 2 rfl) rfl) (ev_var (Vr 3 rfl) rfl) (ev_var (Vr 5 rfl) rfl) (s15.up e16) (tri15.up e16).bk (tri15.up e16).ow ok si3 (by omega) fun H17 e17 => ⟨rfl, rfl, tb_nil ?_⟩)
      refine tb_ret (Φ := MP.top) (s := .d (.str "right")) ev_str ((s15.up e16).up e17) trivial fun v H18 e18 d18 => ?_
      rw [dp_str d18]
      have e15 := (e16.trans e17).trans e18
      exact kk st3 H18 (f5.trans (g5.trans (Fr.same e15))) ((tri15.up e15).mono (by omega)) si3
  · exact tb_ret (Φ := MP.top) (s := .d (.str "right")) ev_str (s5.up e6) trivial fun v H7 e7 d7 => by
      rw [dp_str d7]
      have e67 := e6.trans e7
      exact kk st3 H7 (f5.trans (Fr.same e67)) ((tri5.up e67).mono (by omega)) si3
end
end BL
end

section
set_option Elab.async false
set_option linter.all false
set_option maxRecDepth 100000
set_option maxHeartbeats 4000000
/-! BNc: _law_tried. -/
namespace BL
open PySem PySem.Spec PyProof.Rows L2
abbrev n_tried : List Str := ["_law_m", "_law_book", "_law_hall_so", "_law_own", "_law_way", "_law_led_so", "_law_told_so", "_law_held"]
theorem sc_tried : FnScope n_tried ["_law_m", "_law_book", "_law_hall_so", "_law_own", "_law_way"] (defScope s_l_tried) := ⟨rfl, rfl, rfl, by decide +kernel, rfl, by decide +kernel, by decide +kernel⟩
theorem tb_tried : tabB n_tried (defScope s_l_tried) [(0, "_law_m"), (1, "_law_book"), (2, "_law_hall_so"), (3, "_law_own"), (4, "_law_way"), (5, "_law_led_so"), (6, "_law_told_so")] ["_law_twin_of", "under", "BadCall", "_law_stands"] = true := by decide +kernel
section
variable {P : Program} {w : World} {K : PySem.W.Frag} {mg : Str → Option Value} {base : Heap} {k : Nat} {T : List (Addr × Str)} {S : List Addr}
variable {X : Cx} {Γ Γ' : Gm} {Φ : MP} {a b c e tg it : Expr} {es : List Expr} {pos p : Pos} {σ : L2.St} {H : Hp} {D : Ends} {st : Stmt} {sts bd el : List Stmt}
variable {C DT B CH CRu fI cc cda : Addr} {fdI : FuncData}
theorem te_and2 {Q : VK} (h : tE X a σ H fun v H1 => v = .bl true ∧ tE X b σ H1 Q) : tE X (.BoolOp .And [a, b] pos) σ H Q :=
  PEto (pe_and pe_sem (pe_one pe_sem)) (tE_mono h fun v H1 ⟨q1, q2⟩ => ⟨true, q1, iteT q2⟩)
/-- the body of a try, whatever catches what it lets out -/
def tTry (X : Cx) (body : List Stmt) (W : WX) : TS := fun D σ H => ∀ pn xe, Takes (X.tr pn xe) W → PassesOwn (model X.prog X.w) X.A X.env xe → tB (X.tr pn xe) body D σ H
theorem pss_try {body : List Stmt} (W : WX) (pn : List (Addr × Obj)) (xe : Value → Shared → Prop) (tk : Takes (X.tr pn xe) W) (pas : PassesOwn (model X.prog X.w) X.A X.env xe) : PSs (X.tr pn xe) body (tTry X body W) :=
  ⟨fun pins s σ H D I h => (h pn xe tk pas).run pins s I⟩
def spTried (K : PySem.W.Frag) (T : List (Addr × Str)) (C : Addr) : Sp := fun vs H Q _ => ∃ (m lc lg b o : Addr) (vh : V) (N : Nat) (h : Hl) (r0 : Rl) (n : Nat) (st : Stt) (way : Int), vs = [.ref m, .ref b, vh, .ref o, .int way] ∧ Tri K C m lc lg N b h st o st H ∧ N < 2 ^ 42 ∧ h.Ok ∧ Dp K H vh h.d ∧ StI h r0 n st ∧ n ≤ 300 ∧ LamX.Tabs T H ∧
  ∀ H', Fr T [m, lc, lg, b, o] H H' → Tri K C m lc lg (N + 200) b h st o st H' → Q (.bl true) H'
theorem f_tried (tx : Tx mg) (BB : BookF K mg C) (BT : TrialF K mg DT) (BF : BadF P K mg B fI cc cda fdI) (SF : SaidF K mg B CH CRu) (F : LamF K mg base T "_law_tried" s_l_tried ["_law_m", "_law_book", "_law_hall_so", "_law_own", "_law_way"]) (Fu : FnF K mg "under" s_under ["manager", "deed"])
    (Fi : EFn P w K mg base 18 "_law_inner" (spInner K T C)) (FiX : EFnX P w K mg base 18 "_law_inner" (spInnerX K T C B)) (Fs : EFn P w K mg base 7 "_law_stands" (spStands K C)) (Ftw : EFn P w K mg base 1 "_law_twin_of" (spTwin K)) : EFn P w K mg base 23 "_law_tried" (spTried K T C) := by
  refine efn_ofLS F sc_tried (fun vs H Q E h => by obtain ⟨_, _, _, _, _, _, _, _, _, _, _, _, rfl, _⟩ := h; rfl) (fun X hX hgd hn ⟨cM, PM, M⟩ hstk hfr vs H Q h => ?_) fun vs H Q E h => h
  have Vr := fun (j : Nat) {i : Nat} {x : Str} e => (tab_loc tb_tried hn (i := i) (x := x) j e).1
  have L := fun (j : Nat) {i : Nat} {x : Str} e => (tab_loc tb_tried hn (i := i) (x := x) j e).2
  have G := fun (j : Nat) {x : Str} e => tab_glo tb_tried hn (x := x) j e
  obtain ⟨m, lc, lg, b, o, vh, N, h, r0, n, st, way, rfl, tri, hN, ok, hh, si, hn3, hT, kk⟩ := h
  have s0 : Slots K (L2.start n_tried [.ref m, .ref b, vh, .ref o, .int way]) H [some (.r (.ref m)), some (.r (.ref b)), some (.d h.d), some (.r (.ref o)), some (.d (.int way)), none, none, none] := startS_slots (N := n_tried) (ss := [.r (.ref m), .r (.ref b), .d h.d, .r (.ref o), .d (.int way)]) (.cons rfl (.cons rfl (.cons hh (.cons rfl (.cons (.int _) .nil)))))
  refine tb_set hX (L 5 rfl) (te_disp2 (x1 := "book") (x2 := "inner") (by decide +kernel) fun d hd => ?_)
  have ed := same_new (o := .dK []) hd
  refine ev_str.goT (s0.up ed) fun u1 H1 e1 h1 => Ev.goT (ev_var (Vr 1 rfl) rfl) (s0.up (ed.trans e1)) fun v1 H2 e2 h2 => ev_str.goT (s0.up ((ed.trans e1).trans e2)) fun u2 H3 e3 h3 => te_callG hX hgd Ftw (G 0 rfl) (by decide) (ta_cons (Ev.goT (ev_var (Vr 3 rfl) rfl) (s0.up (((ed.trans e1).trans e2).trans e3)) fun v2 H4 e4 h4 => ta_nil ?_))
  cases (show v1 = V.ref b from h2)
  cases (show v2 = V.ref o from h4)
  have e04 := (((ed.trans e1).trans e2).trans e3).trans e4
  have tri4 := tri.up e04
  refine ⟨lc, lg, o, st, rfl, tri4.ow, tri4.lcs.1, tri4.lcs.2, fun i H5 hi e5 owi => ?_⟩
  have ed5 : Same (upd H d (.dK [])) H5 := (((e1.trans e2).trans e3).trans e4).trans e5
  have hd5 : H5 d = some (.dK []) := ed5 _ _ upd_same
  refine ⟨dp_str h1, dp_str h3, hd5, ?_⟩
  have nid : i ≠ d := fun z => by rw [z, (((e1.trans e2).trans e3).trans e4) _ _ upd_same] at hi; cases hi
  have eF : Same H (upd H5 d (.dK [(.inr "book", .ref b), (.inr "inner", .ref i)])) := same_up (ed.trans ed5) hd
  have fF : Fr T [d] H5 (upd H5 d (.dK [(.inr "book", .ref b), (.inr "inner", .ref i)])) := Fr.upd hd5 trivial (by simp)
  have tri6 := tri.up eF
  have ndm : d ≠ m := fun z => by
    obtain ⟨⟨_, _, y, _⟩, _⟩ := tri.kinds
    rw [← z, hd] at y; cases y
  have nim : i ≠ m := fun z => by
    obtain ⟨⟨_, _, y, _⟩, _⟩ := tri4.kinds
    rw [← z, hi] at y; cases y
  have noi : o ≠ i := fun z => by
    obtain ⟨kvs, y⟩ := tri4.ow.is
    rw [z, hi] at y; cases y
  have owi6 : OwAt K lc lg i st (upd H5 d (.dK [(.inr "book", .ref b), (.inr "inner", .ref i)])) := owi.fr fF (by simp [nid]) (fun x hx => .inr (.inr fun xs y => by rw [List.mem_singleton.mp hx, hd5] at y; cases y))
  have led6 : LedD d b i m (upd H5 d (.dK [(.inr "book", .ref b), (.inr "inner", .ref i)])) := ⟨upd_same, ndm, Ne.symm nid⟩
  have i0 : H i = none := same_dn e04 hi
  have s6 : Slots K ((L2.start n_tried [.ref m, .ref b, vh, .ref o, .int way]).set 5 (some (.ref d))) (upd H5 d (.dK [(.inr "book", .ref b), (.inr "inner", .ref i)])) [some (.r (.ref m)), some (.r (.ref b)), some (.d h.d), some (.r (.ref o)), some (.d (.int way)), some (.r (.ref d)), none, none] := (s0.up eF).set (i := 5) (s := .r (.ref d)) rfl
  generalize (L2.start n_tried [.ref m, .ref b, vh, .ref o, .int way]).set 5 (some (.ref d)) = σ6 at s6 ⊢
  generalize upd H5 d (.dK [(.inr "book", .ref b), (.inr "inner", .ref i)]) = H6 at eF fF tri6 owi6 led6 s6 ⊢
  refine tb_pure (Φ := MP.top) (runS_set (s := .d (.str "none")) hX (L 6 rfl) ev_str) s6 trivial fun σ7 H7 e7 s7 => ?_
  have tri7 := tri6.up e7
  have ti7 : Tri K C m lc lg N b h st i st H7 := ⟨tri7.ma, tri7.bk, owi6.up e7, nim⟩
  have led7 : LedD d b i m H7 := (LedP d b i m).up e7 led6
  have s7' : Slots K σ7 H7 [some (.r (.ref m)), some (.r (.ref b)), some (.d h.d), some (.r (.ref o)), some (.d (.int way)), some (.r (.ref d)), some (.d (.str "none")), none] := s7
  have ng : nlG [some (.r (.ref m)), some (.r (.ref b)), some (.d h.d), some (.r (.ref o)), some (.d (.int way)), some (.r (.ref d)), some (.d (.str "none")), none] := nlG_r (nlG_r (nlG_d (nl_hl h) (nlG_r (nlG_d (nl_int _) (nlG_r (nlG_d (nl_str _) (nlG_none nlG_nil)))))))
  have f7 : Same H H7 := eF.trans e7
  by_cases hw : way = 1
  · subst hw
    obtain ⟨e1', e2', e3', e4'⟩ := hn
    obtain ⟨ft, fdt, mt⟩ := BB.trial
    refine tb_cons (PSto (ps_try_only (Wout := fun _ _ _ _ => False) (c := .ref B) (ts := fun _ _ _ => tAsg (tC (.str "raised")) (gName 6)) hstk hfr ⟨(G 2 rfl).1, (G 2 rfl).2.1, .inl (by rw [hX.mg]; exact BF.at_)⟩ takes0 (fun W pn xe tk pas => pss_try W pn xe tk pas) (fun a oe cls d pn _ _ => pss_one (ps_set (i := 6) hX.nd (L 6 rfl).1 (L 6 rfl).2.1 pe_str rfl (L 6 rfl).2.2))) ?_)
    intro pn xe tkW pas
    have hXt : In P w K mg base 22 (X.tr pn xe) := ⟨hX.prog, hX.w, hX.K, hX.mg, hX.base, hX.calm, hX.room, hX.nd⟩
    have Mt : LamM T (X.tr pn xe) cM PM := ⟨M.tb, M.code, M.mem, M.uni⟩
    refine tb_set hXt (L 6 rfl) (te_underX (X := X.tr pn xe) (j := 7) (y := "_law_held") (m := 18) hXt hgd BB BT Fu (G 1 rfl) Mt (by decide) (by rw [show (X.tr pn xe).N = n_tried from e1', show (X.tr pn xe).env.scope = defScope s_l_tried from e2']; exact lamP_by (by decide +kernel)) rfl tkW (fun _ _ _ _ _ _ => rfl) (te_meth0 (Φ := BkVp K C b h st _ _ _) (fs := fsB _ _ _) hXt BB.cls mt.mt (f_btrial (T := T) BT mt.fn) mt.bd (by decide) (ev_var (Vr 1 rfl) rfl) s7' tri7.bk.choose_spec.choose_spec.choose_spec (fun H q => q.i) rfl fun H9 e9 => ?_))
    refine ⟨b, rfl, fun t H10 ht f10 tr => ⟨f10.tabs ((Fr.same (T := T) (S := []) (f7.trans e9)).tabs hT), fun H11 eN T11 => ?_⟩⟩
    · have f11 : Fr T [] H10 H11 := Fr.ext eN T11
      have ti11 := ((ti7.up e9).f0 f10).f0 f11
      have tri11 := ((tri7.up e9).f0 f10).f0 f11
      have tr11 : TrEx DT t b H11 := tr.fr f11 (by simp)
      have nbt : b ≠ t := fun z => by
        obtain ⟨_, _, ⟨_, _, y⟩, _⟩ := (ti7.up e9).kinds
        rw [z, ht] at y; cases y
      have t0 : H t = none := same_dn (f7.trans e9) ht
      refine ⟨t, b, h, st, rfl, tr11, ti11.bk, nbt, fun H12 f12 trA bkA E1 hE1 Y hY tkY => ?_⟩
      have hY' : LamB P w K mg base 18 n_tried _ Y := e1' ▸ hY
      have ti12 := ti11.fx f12 tr11.ins nbt
      have tri12 := tri11.fx f12 tr11.ins nbt
      have led9 : LedD d b i m H9 := (LedP d b i m).up e9 led7
      have led11 : LedD d b i m H11 := ⟨(f10.trans f11).at led9.1 (by simp), led9.2⟩
      have ntd : t ≠ d := fun z => by
        obtain ⟨_, _, _, y⟩ := tr11.ins
        rw [z, led11.1] at y; cases y
      have led12 : LedD d b i m H12 := ⟨f12.at led11.1 (by simp [Ne.symm ntd]), led11.2⟩
      have s12z := (((s7'.up e9).fr f10 ng).fr f11 ng).fr f12 ng
      have s12 : Slots K (σ7.set 7 (some (.ref b))) H12 [some (.r (.ref m)), some (.r (.ref b)), some (.d h.d), some (.r (.ref o)), some (.d (.int 1)), some (.r (.ref d)), some (.d (.str "none")), some (.r (.ref b))] := s12z.set (i := 7) (s := .r (.ref b)) rfl
      refine te_callGX (E := E1) hY'.i hY'.g tkY (fun _ _ _ _ z => z) FiX (lv_glo (vs := [(0, "_law_m"), (5, "_law_led_so"), (7, "_law_held"), (2, "_law_hall_so"), (4, "_law_way")]) (gs := ["_law_inner"]) (by decide +kernel) hY' 0 rfl) (by decide) (EvA.goT (eva_cons (ev_var (lv_var (vs := [(0, "_law_m"), (5, "_law_led_so"), (7, "_law_held"), (2, "_law_hall_so"), (4, "_law_way")]) (gs := ["_law_inner"]) (by decide +kernel) hY' 0 rfl) rfl) (eva_cons (ev_var (lv_var (vs := [(0, "_law_m"), (5, "_law_led_so"), (7, "_law_held"), (2, "_law_hall_so"), (4, "_law_way")]) (gs := ["_law_inner"]) (by decide +kernel) hY' 1 rfl) rfl) (eva_cons (ev_var (lv_var (vs := [(0, "_law_m"), (5, "_law_led_so"), (7, "_law_held"), (2, "_law_hall_so"), (4, "_law_way")]) (gs := ["_law_inner"]) (by decide +kernel) hY' 2 rfl) rfl) (eva_cons (ev_var (lv_var (vs := [(0, "_law_m"), (5, "_law_led_so"), (7, "_law_held"), (2, "_law_hall_so"), (4, "_law_way")]) (gs := ["_law_inner"]) (by decide +kernel) hY' 3 rfl) rfl) (eva_cons (ev_var (lv_var (vs := [(0, "_law_m"), (5, "_law_led_so"), (7, "_law_held"), (2, "_law_hall_so"), (4, "_law_way")]) (gs := ["_law_inner"]) (by decide +kernel) hY' 4 rfl) rfl) eva_nil))))) s12 fun vs H13 e13 h13 => ?_)
      obtain ⟨v1, v2, v3, v4, v5, rfl, q1, q2, q3, q4, q5'⟩ := sv5 h13
      cases (show v1 = V.ref m from q1)
      cases (show v2 = V.ref d from q2)
      cases (show v3 = V.ref b from q3)
      cases dp_int q5'
      have ti13 := ti12.up e13
      have led13 : LedD d b i m H13 := (LedP d b i m).up e13 led12
      have g1 : Fr T [m, lc, lg, b, o] H H11 := (Fr.same (f7.trans e9)).trans ((f10.mono fun _ z => nomatch z).trans (f11.mono fun _ z => nomatch z))
      have g3 := (g1.drop f12 fun x hx => .inr (by rw [List.mem_singleton.mp hx]; exact t0)).trans (Fr.same e13)
      have trA13 := trA.fr (Fr.same (T := T) (S := []) e13) (by simp)
      have fin : ∀ {N' : Nat} {st4 : Stt} {H14 H15 : Hp}, Fr T [m, lc, lg, b, i] H13 H14 → Tri K C m lc lg N' b h st4 i st4 H14 → Fr T [b] H14 H15 → BkAt K C b h st H15 → Tri K C m lc lg N' b h st o st H15 ∧ Fr T [m, lc, lg, b, o] H H15 ∧ Slots K σ7 H15 [some (.r (.ref m)), some (.r (.ref b)), some (.d h.d), some (.r (.ref o)), some (.d (.int 1)), some (.r (.ref d)), some (.d (.str "none")), none] := fun {N' st4 H14 H15} f14 ti14 f15 bk15 => by
        have o14 : OwAt K lc lg o st H14 := (tri12.up e13).other f14 ti13.ow.is noi
        have g4 : Fr T [m, lc, lg, b, o] H H14 := g3.drop f14 fun x hx => by
          simp only [List.mem_cons, List.not_mem_nil, or_false] at hx ⊢
          rcases hx with z | z | z | z | z
          · exact .inl (.inl z)
          · exact .inl (.inr (.inl z))
          · exact .inl (.inr (.inr (.inl z)))
          · exact .inl (.inr (.inr (.inr (.inl z))))
          · exact .inr (by rw [z]; exact i0)
        exact ⟨Tri.fb (T := T) ⟨ti14.ma, ti14.bk, o14, tri.ne⟩ f15 bk15, g4.trans (f15.mono fun x hx => by rw [List.mem_singleton.mp hx]; simp), ((s12z.up e13).fr f14 ng).fr f15 ng⟩
      refine ⟨m, lc, lg, b, i, d, v4, N, h, r0, n, st, rfl, ti13, led13, by omega, ok, q4, si, by omega, g3.tabs hT, fun st4 H14 dx f14 ti14 si4 => ?_⟩
      refine hE1 _ _ _ ⟨B, rfl⟩ ⟨st4, trA13.fr f14 (trA13.ex.out nbt ti13), ti14.bk, fun H15 f15 bk15 => ?_⟩
      obtain ⟨tri15, g15, s15⟩ := fin f14 ti14 f15 bk15
      refine ⟨true, by rw [show (X.tr pn xe).K = K from hX.K]; exact SF.yes, fun _ a ha => ?_, fun z => nomatch z⟩
      have s16 : Slots K (σ7.set 6 (some (.str "raised"))) H15 [some (.r (.ref m)), some (.r (.ref b)), some (.d h.d), some (.r (.ref o)), some (.d (.int 1)), some (.r (.ref d)), some (.d (.str "raised")), none] := s15.set (i := 6) (s := .d (.str "raised")) (.str _)
      show tB X _ _ (σ7.set 6 (some (.str "raised"))) H15
      refine tb_retE (te_and2 (Ev.goT (s := .d (.bool true)) (Ev.to (ev_eqS (x := "raised") (y := "raised") (ev_var (Vr 6 rfl) rfl) (ev_if (x := decide (1 = 1)) (EvT.to (evt_eq hX (ev_var (Vr 4 rfl) rfl) ev_int) (eqv_int 1 1)) (fun _ => ev_str) (fun z => nomatch z))) (by simp)) s16 fun v H16 e16 d16 => ⟨dp_bl d16, ?_⟩))
      exact te_stands hX hgd Fs (G 3 rfl) (by decide) (ev_var (Vr 1 rfl) rfl) (ev_var (Vr 2 rfl) rfl) (ev_var (Vr 3 rfl) rfl) (s16.up e16) (tri15.up e16).bk (tri15.up e16).ow ok si (by omega) fun H17 e17 => kk H17 (g15.trans (Fr.same (e16.trans e17))) (tri15.up (e16.trans e17))
  · obtain ⟨e1', e2', e3', e4'⟩ := hn
    obtain ⟨ft, fdt, mt⟩ := BB.trial
    have hXn : In P w K mg base 22 X.nox := ⟨hX.prog, hX.w, hX.K, hX.mg, hX.base, hX.calm, hX.room, hX.nd⟩
    have Mn : LamM T X.nox cM PM := ⟨M.tb, M.code, M.mem, M.uni⟩
    refine tb_cons (PSto (ps_try_thru0 (pss_one (ps_set (i := 6) hX.nd (L 6 rfl).1 (L 6 rfl).2.1 (pe_sem (X := X.nox)) rfl (L 6 rfl).2.2))) ?_)
    refine te_under (X := X.nox) (j := 7) (y := "_law_held") (m := 18) hXn hgd BB BT Fu (G 1 rfl) Mn (by decide) (by rw [show (X.nox).N = n_tried from e1', show (X.nox).env.scope = defScope s_l_tried from e2']; exact lamP_by (by decide +kernel)) rfl (fun _ _ _ _ _ _ => rfl) (te_meth0 (Φ := BkVp K C b h st _ _ _) (fs := fsB _ _ _) hXn BB.cls mt.mt (f_btrial (T := T) BT mt.fn) mt.bd (by decide) (ev_var (Vr 1 rfl) rfl) s7' tri7.bk.choose_spec.choose_spec.choose_spec (fun H q => q.i) rfl fun H9 e9 => ?_)
    refine ⟨b, rfl, fun t H10 ht f10 tr => ⟨f10.tabs ((Fr.same (T := T) (S := []) (f7.trans e9)).tabs hT), fun H11 eN T11 => ?_⟩⟩
    · have f11 : Fr T [] H10 H11 := Fr.ext eN T11
      have ti11 := ((ti7.up e9).f0 f10).f0 f11
      have tri11 := ((tri7.up e9).f0 f10).f0 f11
      have tr11 : TrEx DT t b H11 := tr.fr f11 (by simp)
      have nbt : b ≠ t := fun z => by
        obtain ⟨_, _, ⟨_, _, y⟩, _⟩ := (ti7.up e9).kinds
        rw [z, ht] at y; cases y
      have t0 : H t = none := same_dn (f7.trans e9) ht
      refine ⟨t, b, h, st, rfl, tr11, ti11.bk, nbt, fun H12 f12 trA bkA Y hY => ?_⟩
      have hY' : LamB P w K mg base 18 n_tried _ Y := e1' ▸ hY
      have ti12 := ti11.fx f12 tr11.ins nbt
      have tri12 := tri11.fx f12 tr11.ins nbt
      have led9 : LedD d b i m H9 := (LedP d b i m).up e9 led7
      have led11 : LedD d b i m H11 := ⟨(f10.trans f11).at led9.1 (by simp), led9.2⟩
      have ntd : t ≠ d := fun z => by
        obtain ⟨_, _, _, y⟩ := tr11.ins
        rw [z, led11.1] at y; cases y
      have led12 : LedD d b i m H12 := ⟨f12.at led11.1 (by simp [Ne.symm ntd]), led11.2⟩
      have s12z := (((s7'.up e9).fr f10 ng).fr f11 ng).fr f12 ng
      have s12 : Slots K (σ7.set 7 (some (.ref b))) H12 [some (.r (.ref m)), some (.r (.ref b)), some (.d h.d), some (.r (.ref o)), some (.d (.int way)), some (.r (.ref d)), some (.d (.str "none")), some (.r (.ref b))] := s12z.set (i := 7) (s := .r (.ref b)) rfl
      refine te_callG hY'.i hY'.g Fi (lv_glo (vs := [(0, "_law_m"), (5, "_law_led_so"), (7, "_law_held"), (2, "_law_hall_so"), (4, "_law_way")]) (gs := ["_law_inner"]) (by decide +kernel) hY' 0 rfl) (by decide) (EvA.goT (eva_cons (ev_var (lv_var (vs := [(0, "_law_m"), (5, "_law_led_so"), (7, "_law_held"), (2, "_law_hall_so"), (4, "_law_way")]) (gs := ["_law_inner"]) (by decide +kernel) hY' 0 rfl) rfl) (eva_cons (ev_var (lv_var (vs := [(0, "_law_m"), (5, "_law_led_so"), (7, "_law_held"), (2, "_law_hall_so"), (4, "_law_way")]) (gs := ["_law_inner"]) (by decide +kernel) hY' 1 rfl) rfl) (eva_cons (ev_var (lv_var (vs := [(0, "_law_m"), (5, "_law_led_so"), (7, "_law_held"), (2, "_law_hall_so"), (4, "_law_way")]) (gs := ["_law_inner"]) (by decide +kernel) hY' 2 rfl) rfl) (eva_cons (ev_var (lv_var (vs := [(0, "_law_m"), (5, "_law_led_so"), (7, "_law_held"), (2, "_law_hall_so"), (4, "_law_way")]) (gs := ["_law_inner"]) (by decide +kernel) hY' 3 rfl) rfl) (eva_cons (ev_var (lv_var (vs := [(0, "_law_m"), (5, "_law_led_so"), (7, "_law_held"), (2, "_law_hall_so"), (4, "_law_way")]) (gs := ["_law_inner"]) (by decide +kernel) hY' 4 rfl) rfl) eva_nil))))) s12 fun vs H13 e13 h13 => ?_)
      obtain ⟨v1, v2, v3, v4, v5, rfl, q1, q2, q3, q4, q5'⟩ := sv5 h13
      cases (show v1 = V.ref m from q1)
      cases (show v2 = V.ref d from q2)
      cases (show v3 = V.ref b from q3)
      cases dp_int q5'
      have ti13 := ti12.up e13
      have led13 : LedD d b i m H13 := (LedP d b i m).up e13 led12
      have g1 : Fr T [m, lc, lg, b, o] H H11 := (Fr.same (f7.trans e9)).trans ((f10.mono fun _ z => nomatch z).trans (f11.mono fun _ z => nomatch z))
      have g3 := (g1.drop f12 fun x hx => .inr (by rw [List.mem_singleton.mp hx]; exact t0)).trans (Fr.same e13)
      have trA13 := trA.fr (Fr.same (T := T) (S := []) e13) (by simp)
      have fin : ∀ {N' : Nat} {st4 : Stt} {H14 H15 : Hp}, Fr T [m, lc, lg, b, i] H13 H14 → Tri K C m lc lg N' b h st4 i st4 H14 → Fr T [b] H14 H15 → BkAt K C b h st H15 → Tri K C m lc lg N' b h st o st H15 ∧ Fr T [m, lc, lg, b, o] H H15 ∧ Slots K σ7 H15 [some (.r (.ref m)), some (.r (.ref b)), some (.d h.d), some (.r (.ref o)), some (.d (.int way)), some (.r (.ref d)), some (.d (.str "none")), none] := fun {N' st4 H14 H15} f14 ti14 f15 bk15 => by
        have o14 : OwAt K lc lg o st H14 := (tri12.up e13).other f14 ti13.ow.is noi
        have g4 : Fr T [m, lc, lg, b, o] H H14 := g3.drop f14 fun x hx => by
          simp only [List.mem_cons, List.not_mem_nil, or_false] at hx ⊢
          rcases hx with z | z | z | z | z
          · exact .inl (.inl z)
          · exact .inl (.inr (.inl z))
          · exact .inl (.inr (.inr (.inl z)))
          · exact .inl (.inr (.inr (.inr (.inl z))))
          · exact .inr (by rw [z]; exact i0)
        exact ⟨Tri.fb (T := T) ⟨ti14.ma, ti14.bk, o14, tri.ne⟩ f15 bk15, g4.trans (f15.mono fun x hx => by rw [List.mem_singleton.mp hx]; simp), ((s12z.up e13).fr f14 ng).fr f15 ng⟩
      refine ⟨m, lc, lg, b, i, d, v4, N, h, r0, n, st, way, rfl, hw, ti13, led13, by omega, ok, q4, si, by omega, g3.tabs hT, fun st4 H14 f14 ti14 si4 => ?_⟩
      refine ⟨st4, trA13.fr f14 (trA13.ex.out nbt ti13), ti14.bk, fun H15 f15 bk15 => ?_⟩
      obtain ⟨tri15, g15, s15⟩ := fin f14 ti14 f15 bk15
      have s16 : Slots K (σ7.set 6 (some (.str "right"))) H15 [some (.r (.ref m)), some (.r (.ref b)), some (.d h.d), some (.r (.ref o)), some (.d (.int way)), some (.r (.ref d)), some (.d (.str "right")), none] := s15.set (i := 6) (s := .d (.str "right")) (.str _)
      show tB X _ _ (σ7.set 6 (some (.str "right"))) H15
      refine tb_retE (te_and2 (Ev.goT (s := .d (.bool true)) (Ev.to (ev_eqS (x := "right") (y := "right") (ev_var (Vr 6 rfl) rfl) (ev_if (x := decide (way = 1)) (EvT.to (evt_eq hX (ev_var (Vr 4 rfl) rfl) ev_int) (eqv_int way 1)) (fun z => absurd (of_decide_eq_true z) hw) (fun _ => ev_str))) (by simp)) s16 fun v H16 e16 d16 => ⟨dp_bl d16, ?_⟩))
      exact te_stands hX hgd Fs (G 3 rfl) (by decide) (ev_var (Vr 1 rfl) rfl) (ev_var (Vr 2 rfl) rfl) (ev_var (Vr 3 rfl) rfl) (s16.up e16) (tri15.up e16).bk (tri15.up e16).ow ok si (by omega) fun H17 e17 => kk H17 (g15.trans (Fr.same (e16.trans e17))) (tri15.up (e16.trans e17))
end
end BL
end

section
set_option Elab.async false
set_option linter.all false
set_option maxRecDepth 100000
set_option maxHeartbeats 4000000
/-! BNd: _law_back_right. -/
namespace BL
open PySem PySem.Spec PyProof.Rows L2
section
variable {P : Program} {w : World} {K : PySem.W.Frag} {mg : Str → Option Value} {base : Heap} {k : Nat} {T : List (Addr × Str)} {S : List Addr}
variable {X : Cx} {Γ Γ' : Gm} {Φ : MP} {a b c e tg it : Expr} {es : List Expr} {pos p : Pos} {σ : L2.St} {H : Hp} {D : Ends} {st : Stmt} {sts bd el : List Stmt} {C : Addr}
theorem tt_isnotB {Q : Bool → Hp → Prop} {y : Bool} {j : Nat} {p2 : Pos} (h : tE X a σ H fun v H1 => v = .bl y ∧ Q false H1) (hm : behindInMarks .IsNot (.Constant (.bool y) j p2) = false := by rfl) : tT X (.Compare a [.IsNot] [.Constant (.bool y) j p2] pos) σ H Q :=
  PTto (pt_cmpR op_notBl pe_sem pe_bl hm) (tE_mono h fun v H1 ⟨q1, q2⟩ => ⟨y, y, q1, rfl, false, by simp, q2⟩)
theorem te_isB {Q : VK} {y : Bool} {j : Nat} {p2 : Pos} (h : tE X a σ H fun v H1 => v = .bl y ∧ Q (.bl true) H1) (hm : behindInMarks .Is (.Constant (.bool y) j p2) = false := by rfl) : tE X (.Compare a [.Is] [.Constant (.bool y) j p2] pos) σ H Q :=
  PEto (pe_cmpR op_isBl pe_sem pe_bl hm) (tE_mono h fun v H1 ⟨q1, q2⟩ => ⟨y, y, q1, rfl, by simpa using q2⟩)
/-- own['past'], own['later'] = e1, e2 -/
theorem tb_own2 {e1 e2 o1 i1 o2 i2 : Expr} {lc lg oa l1 l2 : Addr} {xs ys : List V} {su st' : Stt} {p1 p2 pt : Pos} {kt k2 : Nat} {pt2 : Pos} (hX : In P w K mg base k X) (he1 : EvL K X Γ Φ e1 (st'.past.map Ent.dO)) (he2 : EvL K X Γ Φ e2 (st'.later.map Ent.dO)) (ho1 : Ev K X Γ MP.top o1 (.r (.ref oa))) (hi1 : Ev K X Γ MP.top i1 (.d (.str "past"))) (ho2 : Ev K X Γ MP.top o2 (.r (.ref oa))) (hi2 : Ev K X Γ MP.top i2 (.d (.str "later")))
    (ng : nlG Γ) (hs : Slots K σ H Γ) (hp : Φ.p H) (hw : ∀ H, Φ.p H → OwV K lc lg oa l1 l2 xs ys su H) (hl : H lc ≠ none ∧ H lg ≠ none) (kk : ∀ H', Fr T [oa] H H' → Slots K σ H' Γ → OwAt K lc lg oa st' H' → tB X sts D σ H')
    (s1 : starEach [e1, e2] X.env = (false, eval e1 X.env) :: starEach [e2] X.env := by rfl) (s2 : starEach [e2] X.env = (false, eval e2 X.env) :: starEach [] X.env := by rfl)
    (hs' : swapsWithSole [.Tuple [.Subscript o1 i1 p1, .Subscript o2 i2 p2] kt pt] (.Tuple [e1, e2] k2 pt2) pos.line X.env = pure false := by rfl) (hws : swappedStores [.Tuple [.Subscript o1 i1 p1, .Subscript o2 i2 p2] kt pt] (.Tuple [e1, e2] k2 pt2) X.env = pure none := by rfl)
    (h1 : (assignEach [.Tuple [.Subscript o1 i1 p1, .Subscript o2 i2 p2] kt pt] X.env).map (·.2) = [assign (.Tuple [.Subscript o1 i1 p1, .Subscript o2 i2 p2] kt pt) X.env] := by rfl)
    (hn : (assignEach [.Subscript o1 i1 p1, .Subscript o2 i2 p2] X.env).length = 2 := by rfl) (hst : (assignEach [.Subscript o1 i1 p1, .Subscript o2 i2 p2] X.env).findIdx? (·.1) = none := by rfl)
    (a1 : (assignEach [.Subscript o1 i1 p1, .Subscript o2 i2 p2] X.env).map (·.2) = assign (.Subscript o1 i1 p1) X.env :: (assignEach [.Subscript o2 i2 p2] X.env).map (·.2) := by rfl) (a2 : (assignEach [.Subscript o2 i2 p2] X.env).map (·.2) = assign (.Subscript o2 i2 p2) X.env :: (assignEach [] X.env).map (·.2) := by rfl)
    (b1 : ∀ v, assign (.Subscript o1 i1 p1) X.env v = (do
      let ov ← holding [v] (eval o1 X.env)
      let iv ← holding [v, ov] (eval i1 X.env)
      standAt p1
      holding [v, ov, iv] (setItem ov iv v)
      release [v, ov, iv] []) := by intro _; rfl) (b2 : ∀ v, assign (.Subscript o2 i2 p2) X.env v = (do
      let ov ← holding [v] (eval o2 X.env)
      let iv ← holding [v, ov] (eval i2 X.env)
      standAt p2
      holding [v, ov, iv] (setItem ov iv v)
      release [v, ov, iv] []) := by intro _; rfl) :
    tB X (.Assign [.Tuple [.Subscript o1 i1 p1, .Subscript o2 i2 p2] kt pt] (.Tuple [e1, e2] k2 pt2) pos :: sts) D σ H := by
  have hu : X.A.units + 1 < cLine := by have := hX.room.units; omega
  refine tb_unp (te_tup (ta_cons (he1 σ H _ hs hp fun q1 z1 H1 f1 n1 g1 d1 => ta_cons (he2 σ H1 _ (hs.up f1) (Φ.up f1 hp) fun q2 z2 H2 f2 n2 g2 d2 => ta_nil ⟨by simp, fun p hp' => ?_⟩) s2) s1)) hs' hws h1
  refine PGto (pg_tup hX.calm (pgs_cons (pg_sub pe_sem pe_sem (set_dict hu) b1) (pgs_cons (pg_sub pe_sem pe_sem (set_dict hu) b2) pgs_nil a2) a1) hn hst) ?_
  have f3 : Same H2 (upd H2 p (.tup [.ref q1, .ref q2])) := same_new hp'
  refine ⟨p, [.ref q1, .ref q2], rfl, SqT.of upd_same, rfl, .ref q1, [.ref q2], rfl, ?_⟩
  refine ho1.goT (hs.up ((f1.trans f2).trans f3)) fun u4 H4 f4 h4 => hi1.goT (hs.up (((f1.trans f2).trans f3).trans f4)) fun u5 H5 f5 h5 => ?_
  cases (show u4 = V.ref oa from h4)
  cases dp_str h5
  have f05 : Same H H5 := ((((f1.trans f2).trans f3).trans f4).trans f5)
  have ow := hw H5 (Φ.up f05 hp)
  have g : Fr T [oa] H5 (upd H5 oa (.dK (putK [(.inr "past", .ref l1), (.inr "later", .ref l2)] (.inr "past") (.ref q1)))) := Fr.upd ow.1 trivial (by simp)
  refine ⟨oa, _, rfl, DPut.k (k := .inr "past") ow.1 (by rw [sizeLine_eq]; simp), .ref q2, [], rfl, ?_⟩
  refine ho2.goT ((hs.up f05).fr g ng) fun u6 H6 f6 h6 => hi2.goT (((hs.up f05).fr g ng).up f6) fun u7 H7 f7 h7 => ?_
  cases (show u6 = V.ref oa from h6)
  cases dp_str h7
  have o7 : H7 oa = some (.dK [(.inr "past", .ref q1), (.inr "later", .ref l2)]) := (f6.trans f7) _ _ upd_same
  have g7 : Fr T [oa] H7 (upd H7 oa (.dK [(.inr "past", .ref q1), (.inr "later", .ref q2)])) := Fr.upd o7 trivial (by simp)
  have gA : Fr T [oa] H5 H7 := g.trans (Fr.same (f6.trans f7))
  refine ⟨oa, upd H7 oa (.dK [(.inr "past", .ref q1), (.inr "later", .ref q2)]), rfl, DPut.k (k := .inr "later") (kvs := [(.inr "past", .ref q1), (.inr "later", .ref l2)]) (v := .ref q2) o7 (by rw [sizeLine_eq]; simp), ?_⟩
  have gB := gA.trans g7
  have m1 : H5 q1 = some (.lst z1) := ((((f2.trans f3).trans f4).trans f5)) _ _ g1
  have m2 : H5 q2 = some (.lst z2) := (((f3.trans f4).trans f5)) _ _ g2
  have k1 : q1 ≠ oa := fun z => by rw [z, ow.1] at m1; cases m1
  have k2 : q2 ≠ oa := fun z => by rw [z, ow.1] at m2; cases m2
  refine ⟨rfl, kk _ ((Fr.same f05).trans gB) ((hs.up f05).fr gB ng) ⟨q1, q2, z1, z2, upd_same, gB.at m1 (by simp [k1]), gB.at m2 (by simp [k2]), dps_nl gB.tup (nls_dO _) (dps_up (((f2.trans f3).trans f4).trans f5) d1), dps_nl gB.tup (nls_dO _) (dps_up ((f3.trans f4).trans f5) d2), nq_of hl n1, nq_of hl (same_dn f1 n2)⟩⟩
/-- b.undo(), b.redo() -/
theorem te_undo {Q : VK} {b' m lc lg o : Addr} {N : Nat} {h : Hl} {r0 : Rl} {n : Nat} {stt su : Stt} {apos : Pos} {pl : Sem Bool} (tx : Tx mg) (B : BookF K mg C) (hX : In P w K mg base k X) (hk : 3 ≤ k) (hb : ∀ Φ, Ev K X Γ Φ e (.r (.ref b'))) (hs : Slots K σ H Γ) (tri : Tri K C m lc lg N b' h stt o su H) (si : StI h r0 n stt) (hn : n ≤ 400)
    (k1 : stt.past.length = 1 → ∀ H', Same H H' → Q (.bl false) H') (k2 : ∀ l x, stt.past = l ++ [x] → l ≠ [] → ∀ H', Fr T [b'] H H' → Tri K C m lc lg N b' h ⟨l, x :: stt.later⟩ o su H' → Q (.bl true) H')
    (ht : eval (.Call (.Attribute e "undo" apos) [] [] pos) X.env = (do
      let ov ← eval e X.env
      standAt apos.atName
      let (f, first) ← holding [ov] (getMethod ov "undo" pl)
      callWith pos f first (backTo pos (starEach [] X.env)) (backToKw pos (keywordEach [] X.env))) := by rfl) : tE X (.Call (.Attribute e "undo" apos) [] [] pos) σ H Q := by
  obtain ⟨w1, w2, w3, bk⟩ := id tri.bk
  obtain ⟨f, fd, m'⟩ := B.undo
  have sz := si.sz
  refine te_meth0 (Φ := BkVp K C b' h stt w1 w2 w3) (fs := fsB w1 w2 w3) hX B.cls m'.mt (f_bundo (T := T) tx B m'.fn) m'.bd hk (hb _) hs bk (fun H q => q.i) rfl (fun H1 e1 => ?_) ht
  exact ⟨b', h, stt, rfl, (tri.up e1).bk, si.ne, by omega, fun z H2 e2 => k1 z H2 (e1.trans e2), fun l x hl ln H2 f2 bk2 => k2 l x hl ln H2 ((Fr.same e1).trans f2) ((tri.up e1).fb f2 bk2)⟩
theorem te_redo {Q : VK} {b' m lc lg o : Addr} {N : Nat} {h : Hl} {r0 : Rl} {n : Nat} {stt su : Stt} {apos : Pos} {pl : Sem Bool} (B : BookF K mg C) (hX : In P w K mg base k X) (hk : 3 ≤ k) (hb : ∀ Φ, Ev K X Γ Φ e (.r (.ref b'))) (hs : Slots K σ H Γ) (tri : Tri K C m lc lg N b' h stt o su H) (si : StI h r0 n stt) (hn : n ≤ 400)
    (k1 : stt.later = [] → ∀ H', Same H H' → Q (.bl false) H') (k2 : ∀ x l, stt.later = x :: l → ∀ H', Fr T [b'] H H' → Tri K C m lc lg N b' h ⟨stt.past ++ [x], l⟩ o su H' → Q (.bl true) H')
    (ht : eval (.Call (.Attribute e "redo" apos) [] [] pos) X.env = (do
      let ov ← eval e X.env
      standAt apos.atName
      let (f, first) ← holding [ov] (getMethod ov "redo" pl)
      callWith pos f first (backTo pos (starEach [] X.env)) (backToKw pos (keywordEach [] X.env))) := by rfl) : tE X (.Call (.Attribute e "redo" apos) [] [] pos) σ H Q := by
  obtain ⟨w1, w2, w3, bk⟩ := id tri.bk
  obtain ⟨f, fd, m'⟩ := B.redo
  have sz := si.sz
  refine te_meth0 (Φ := BkVp K C b' h stt w1 w2 w3) (fs := fsB w1 w2 w3) hX B.cls m'.mt (f_bredo (T := T) B m'.fn) m'.bd hk (hb _) hs bk (fun H q => q.i) rfl (fun H1 e1 => ?_) ht
  exact ⟨b', h, stt, n, rfl, (tri.up e1).bk, fun e he => si.al e (List.mem_append_right _ he), by omega, fun z H2 e2 => k1 z H2 (e1.trans e2), fun x l hl H2 f2 bk2 => k2 x l hl H2 ((Fr.same e1).trans f2) ((tri.up e1).fb f2 bk2)⟩
def spBack (K : PySem.W.Frag) (T : List (Addr × Str)) (C : Addr) : Sp := fun vs H Q _ => ∃ (m lc lg b o : Addr) (vh : V) (N : Nat) (h : Hl) (r0 : Rl) (n : Nat) (st : Stt), vs = [.ref b, vh, .ref o] ∧ Tri K C m lc lg N b h st o st H ∧ h.Ok ∧ Dp K H vh h.d ∧ StI h r0 n st ∧ n ≤ 400 ∧
  ∀ st' H', Fr T [b, o] H H' → Tri K C m lc lg N b h st' o st' H' → StI h r0 n st' → st'.past.length = 1 → Q (.bl true) H'
theorem f_back_right (tx : Tx mg) (BB : BookF K mg C) (F : FnF K mg "_law_back_right" s_l_back_right ["_law_book", "_law_hall_so", "_law_own"]) (Fs : EFn P w K mg base 7 "_law_stands" (spStands K C)) : EFn P w K mg base 8 "_law_back_right" (spBack K T C) := by
  refine efn_of F sc_l_back_right (fun vs H Q E h => by obtain ⟨_, _, _, _, _, _, _, _, _, _, _, rfl, _⟩ := h; rfl) (fun X hX hgd hn vs H Q h => ?_) fun vs H Q E h => h
  have Vr := fun (j : Nat) {i : Nat} {x : Str} e => (tab_loc tb_l_back_right hn (i := i) (x := x) j e).1
  have L := fun (j : Nat) {i : Nat} {x : Str} e => (tab_loc tb_l_back_right hn (i := i) (x := x) j e).2
  have G := fun (j : Nat) {x : Str} e => tab_glo tb_l_back_right hn (x := x) j e
  obtain ⟨m, lc, lg, b, o, vh, N, h, r0, n, st, rfl, tri, ok, hh, si, hn4, kk⟩ := h
  have bS : ∀ {H H' : Hp}, Fr T [b] H H' → Fr T [b, o] H H' := fun {H H'} f => f.mono fun y hy => by rw [List.mem_singleton.mp hy]; simp
  have oS : ∀ {H H' : Hp}, Fr T [o] H H' → Fr T [b, o] H H' := fun {H H'} f => f.mono fun y hy => by rw [List.mem_singleton.mp hy]; simp
  have s0 : Slots K (L2.start n_l_back_right [.ref b, vh, .ref o]) H [some (.r (.ref b)), some (.d h.d), some (.r (.ref o)), none] := startS_slots (N := n_l_back_right) (ss := [.r (.ref b), .d h.d, .r (.ref o)]) (.cons rfl (.cons hh (.cons rfl .nil)))
  have sz := si.sz
  obtain ⟨l1, l2, xs, ys, ow⟩ := id tri.ow
  refine tb_forR (i := 3) hX (G 0 rfl) tx.range hn.pas (L 3 rfl) (fun i σ H' => ∃ (st' : Stt) (x : Option Sv), Fr T [b, o] H H' ∧ Tri K C m lc lg N b h st' o st' H' ∧ StI h r0 n st' ∧ st'.later.length + i = st.later.length ∧ Slots K σ H' [some (.r (.ref b)), some (.d h.d), some (.r (.ref o)), x]) ?_
  refine (ev_lenL (ds := st.later.map Ent.dO) hX (G 1 rfl) tx.len (ev_laterD (Φ := OwVp K lc lg o l1 l2 xs ys st) hX (ev_var (Vr 2 rfl) rfl) ev_str (fun H q => q))).go s0 ow fun v H1 e1 d1 => ?_
  refine ⟨st.later.length, by rw [dp_int d1, List.length_map], by omega, ⟨st, none, Fr.same e1, tri.up e1, si, rfl, s0.up e1⟩, fun j hj σ2 H2 iv => ?_, fun σ2 H2 iv => ?_⟩
  · obtain ⟨st2, x, f2, tri2, si2, hl2, s2⟩ := iv
    have s2' : Slots K (σ2.set 3 (some (.int (j : Int)))) H2 [some (.r (.ref b)), some (.d h.d), some (.r (.ref o)), some (.d (.int (j : Int)))] := s2.set (i := 3) (s := .d (.int (j : Int))) (.int _)
    have ng : nlG [some (.r (.ref b)), some (.d h.d), some (.r (.ref o)), some (.d (.int (j : Int)))] := nlG_r (nlG_d (nl_hl h) (nlG_r (nlG_d (nl_int _) nlG_nil)))
    have sz2 := si2.sz
    obtain ⟨y, l, hyl⟩ : ∃ y l, st2.later = y :: l := by
      cases q : st2.later with
      | nil => rw [q] at hl2; simp at hl2; omega
      | cons y l => exact ⟨y, l, rfl⟩
    obtain ⟨l1, l2, xs, ys, ow2⟩ := id tri2.ow
    refine tb_own2 (T := T) (Φ := OwVp K lc lg o l1 l2 xs ys st2) (st' := ⟨st2.past ++ [y], l⟩) hX (EvL.to (evl_cat (evm_past hX (ev_var (Vr 2 rfl) rfl) ev_str fun H q => q) (EvL.m (evl_sl (l := none) (u := some ((1 : Nat) : Int)) hX (evm_later hX (ev_var (Vr 2 rfl) rfl) ev_str fun H q => q) trivial ev_int)) (by rw [cutG_to]; simp; omega)) (by rw [cutG_to, hyl]; show _ = (st2.past ++ [y]).map Ent.dO; rw [List.map_append]; rfl))
      (EvL.to (evl_sl (l := some ((1 : Nat) : Int)) (u := none) hX (evm_later hX (ev_var (Vr 2 rfl) rfl) ev_str fun H q => q) ev_int trivial) (by rw [cutG_from, hyl]; rfl)) (ev_var (Vr 2 rfl) rfl) ev_str (ev_var (Vr 2 rfl) rfl) ev_str ng s2' ow2 (fun H q => q) tri2.lcs (fun H3 f3 s3 ow3 => ?_) rfl rfl rfl (sw_by hn rfl)
    have tri3 : Tri K C m lc lg N b h st2 o ⟨st2.past ++ [y], l⟩ H3 := tri2.fo f3 ow3
    have si3 := si2.redo hyl
    refine tb_ifF (tw_or (tt_isnotB (te_redo (T := T) (b' := b) BB hX (by decide) (fun _ => ev_var (Vr 0 rfl) rfl) s3 tri3 si2 (by omega) (fun z => by rw [hyl] at z; cases z) fun y' l' hl' H4 f4 tri4 => ⟨rfl, fun z => (nomatch z), fun _ => ?_⟩)))
    cases hyl.symm.trans hl'
    have s4 := s3.fr f4 ng
    refine tw_orE (te_stands hX hgd Fs (G 2 rfl) (by decide) (ev_var (Vr 0 rfl) rfl) (ev_var (Vr 1 rfl) rfl) (ev_var (Vr 2 rfl) rfl) s4 tri4.bk tri4.ow ok si3 (by omega) fun H5 e5 => ⟨rfl, rfl, tb_nil ?_⟩)
    exact ⟨⟨st2.past ++ [y], l⟩, _, f2.trans ((oS f3).trans ((bS f4).trans (Fr.same e5))), tri4.up e5, si3, by rw [hyl] at hl2; simp at hl2 ⊢; omega, s4.up e5⟩
  · obtain ⟨st2, x, f2, tri2, si2, hl2, s2⟩ := iv
    have h0 : st2.later = [] := List.length_eq_zero_iff.mp (by omega)
    have ev0 : ∀ Φ, Ev K X [some (.r (.ref b)), some (.d h.d), some (.r (.ref o)), x] Φ _ (.r (.ref b)) := fun Φ => ev_var (pos := ⟨0, 0, 0, 0⟩) (Vr 0 rfl) rfl
    refine tb_ifFT (tt_isnotB (te_redo (T := T) (b' := b) BB hX (by decide) (fun _ => ev_var (Vr 0 rfl) rfl) s2 tri2 si2 (by omega) (fun _ H3 e3 => ⟨rfl, rfl, ?_⟩) fun y l hl => by rw [h0] at hl; cases hl))
    have tri3 := tri2.up e3
    have sz2 := si2.sz
    have pos2 := List.length_pos_iff.mpr si2.ne
    obtain ⟨l1, l2, xs, ys, ow3⟩ := id tri3.ow
    refine tb_forR (i := 3) hX (G 0 rfl) tx.range hn.pas (L 3 rfl) (fun i σ H' => ∃ (st' : Stt) (x : Option Sv), Fr T [b, o] H H' ∧ Tri K C m lc lg N b h st' o st' H' ∧ StI h r0 n st' ∧ st'.past.length + i = st2.past.length ∧ Slots K σ H' [some (.r (.ref b)), some (.d h.d), some (.r (.ref o)), x]) ?_
    refine (ev_sub (ev_lenL (ds := st2.past.map Ent.dO) hX (G 1 rfl) tx.len (ev_pastD (Φ := OwVp K lc lg o l1 l2 xs ys st2) hX (ev_var (Vr 2 rfl) rfl) ev_str (fun H q => q))) ev_int).go (s2.up e3) ow3 fun v H4 e4 d4 => ?_
    refine ⟨st2.past.length - 1, by rw [dp_int d4, List.length_map]; congr 1; omega, by omega, ⟨st2, x, f2.trans (Fr.same (e3.trans e4)), tri3.up e4, si2, rfl, (s2.up e3).up e4⟩, fun j hj σ5 H5 iv => ?_, fun σ5 H5 iv => ?_⟩
    · obtain ⟨st5, x5, f5, tri5, si5, hl5, s5⟩ := iv
      have s5' : Slots K (σ5.set 3 (some (.int (j : Int)))) H5 [some (.r (.ref b)), some (.d h.d), some (.r (.ref o)), some (.d (.int (j : Int)))] := s5.set (i := 3) (s := .d (.int (j : Int))) (.int _)
      have ng : nlG [some (.r (.ref b)), some (.d h.d), some (.r (.ref o)), some (.d (.int (j : Int)))] := nlG_r (nlG_d (nl_hl h) (nlG_r (nlG_d (nl_int _) nlG_nil)))
      have sz5 := si5.sz
      obtain ⟨l, y, hly⟩ : ∃ l y, st5.past = l ++ [y] := ⟨_, _, (List.dropLast_concat_getLast si5.ne).symm⟩
      have hln : l ≠ [] := fun z => by rw [hly, z] at hl5; simp at hl5; omega
      obtain ⟨l1, l2, xs, ys, ow5⟩ := id tri5.ow
      refine tb_own2 (T := T) (Φ := OwVp K lc lg o l1 l2 xs ys st5) (st' := ⟨l, y :: st5.later⟩) hX (EvL.to (evl_sl (l := none) (u := some (-1)) hX (evm_past hX (ev_var (Vr 2 rfl) rfl) ev_str fun H q => q) trivial (ev_neg ev_int)) (by rw [hly, List.map_append]; exact cutG_init _ _))
        (EvL.to (evl_cat (EvL.m (evl_sl (l := some (-1)) (u := none) hX (evm_past hX (ev_var (Vr 2 rfl) rfl) ev_str fun H q => q) (ev_neg ev_int) trivial)) (evm_later hX (ev_var (Vr 2 rfl) rfl) ev_str fun H q => q) (by rw [hly, List.map_append]; rw [show ([y].map Ent.dO) = [y.dO] from rfl, cutG_last]; simp; omega)) (by rw [hly, List.map_append]; rw [show ([y].map Ent.dO) = [y.dO] from rfl, cutG_last]; rfl)) (ev_var (Vr 2 rfl) rfl) ev_str (ev_var (Vr 2 rfl) rfl) ev_str ng s5' ow5 (fun H q => q) tri5.lcs (fun H6 f6 s6 ow6 => ?_) rfl rfl rfl (sw_by hn rfl)
      have tri6 : Tri K C m lc lg N b h st5 o ⟨l, y :: st5.later⟩ H6 := tri5.fo f6 ow6
      have si6 := si5.undo hly hln
      refine tb_ifF (tw_or (tt_isnotB (te_undo (T := T) (b' := b) tx BB hX (by decide) (fun _ => ev_var (Vr 0 rfl) rfl) s6 tri6 si5 (by omega) (fun z => by rw [hly] at z; simp at z; exact absurd z hln) fun l' y' hl' hn' H7 f7 tri7 => ⟨rfl, fun z => (nomatch z), fun _ => ?_⟩)))
      obtain ⟨rfl, hx⟩ := List.append_inj' (hly.symm.trans hl') rfl
      cases hx
      have s7 := s6.fr f7 ng
      refine tw_orE (te_stands hX hgd Fs (G 2 rfl) (by decide) (ev_var (Vr 0 rfl) rfl) (ev_var (Vr 1 rfl) rfl) (ev_var (Vr 2 rfl) rfl) s7 tri7.bk tri7.ow ok si6 (by omega) fun H8 e8 => ⟨rfl, rfl, tb_nil ?_⟩)
      exact ⟨⟨l, y :: st5.later⟩, _, f5.trans ((oS f6).trans ((bS f7).trans (Fr.same e8))), tri7.up e8, si6, by rw [hly] at hl5; simp at hl5 ⊢; omega, s7.up e8⟩
    · obtain ⟨st5, x5, f5, tri5, si5, hl5, s5⟩ := iv
      have h1 : st5.past.length = 1 := by omega
      refine tb_retE (te_and2 (te_isB (te_undo (T := T) (b' := b) tx BB hX (by decide) (fun _ => ev_var (Vr 0 rfl) rfl) s5 tri5 si5 (by omega) (fun _ H6 e6 => ⟨rfl, rfl, ?_⟩) fun l y hl ln => by
        rw [hl] at h1; simp at h1; exact absurd h1 ln)))
      exact te_stands hX hgd Fs (G 2 rfl) (by decide) (ev_var (Vr 0 rfl) rfl) (ev_var (Vr 1 rfl) rfl) (ev_var (Vr 2 rfl) rfl) (s5.up e6) (tri5.up e6).bk (tri5.up e6).ow ok si5 (by omega) fun H7 e7 => kk st5 H7 (f5.trans (Fr.same (e6.trans e7))) (tri5.up (e6.trans e7)) si5 h1
end
end BL
end

section
set_option Elab.async false
set_option linter.all false
set_option maxRecDepth 100000
set_option maxHeartbeats 4000000
/-! BNe: books by ==, !=; a comprehension over things of any kinds. -/
namespace BL
open PySem PySem.Spec PyProof.Rows L2
/-- whose own == is not asked first -/
structure EqF (K : PySem.W.Frag) (C : Addr) : Prop where
  n : PySem.W.notFirst K C (.type "NoneType") = true
  i : PySem.W.notFirst K C (.type "int") = true
  t : PySem.W.notFirst K C (.type "tuple") = true
inductive EqR (K : PySem.W.Frag) (C : Addr) (H : Hp) : V → V → Bool → Prop where
  | no {b : Addr} {h : Hl} {st : Stt} {v : V} {d : PyData} (bk : BkAt K C b h st H) (hd : Dp K H v d) (t : d = .none ∨ (∃ i, d = .int i) ∨ ∃ ds, d = .tuple ds) : EqR K C H (.ref b) v false
  | bk {b b' : Addr} {h h' : Hl} {st st' : Stt} {e0 e0' : Ent} {n n' : Nat} (bk : BkAt K C b h st H) (bk' : BkAt K C b' h' st' H) (hd : st.past.head? = some e0) (hd' : st'.past.head? = some e0') (ok : ∀ e ∈ st.past, e.Ok h n) (ok' : ∀ e ∈ st'.past, e.Ok h' n')
      (hz : st.past.length ≤ 900) (hz' : st'.past.length ≤ 900) : EqR K C H (.ref b) (.ref b') (PyData.eqv (.tuple [h.d, e0.dB]) (.tuple [h'.d, e0'.dB]) && PyData.eqv (ddsB st.past) (ddsB st'.past))
def atP (H : Hp) : MP := ⟨fun H' => Same H H', fun e q => q.trans e⟩
section
variable {P : Program} {w : World} {K : PySem.W.Frag} {mg : Str → Option Value} {base : Heap} {k : Nat} {T : List (Addr × Str)} {S : List Addr}
variable {X : Cx} {Γ Γ' : Gm} {Φ : MP} {a b c e tg it : Expr} {es : List Expr} {pos p : Pos} {s t : Sv} {ss : List Sv} {σ : L2.St} {H : Hp} {D : Ends} {st : Stmt} {sts bd el : List Stmt} {C : Addr} {Q : VK}
theorem EqR.up {H' : Hp} {u v : V} {r : Bool} (h : EqR K C H u v r) (e : Same H H') : EqR K C H' u v r := by
  cases h with
  | no bk hd t => exact .no (bk.up e) (dp_up e hd) t
  | bk bk bk' hd hd' ok ok' hz hz' => exact .bk (bk.up e) (bk'.up e) hd hd' ok ok' hz hz'
theorem EqR.req {u v : V} {r : Bool} (h : EqR K C H u v r) : R_eq K C u v (atP H) r := by
  cases h with
  | @no b h st v d bk hd t => exact .no _ b v d (fun H' e => dp_up e hd) t
  | @bk b b' h h' st st' e0 e0' n n' bk bk' hd hd' ok ok' hz hz' =>
    obtain ⟨v1, v2, v3, q⟩ := bk
    obtain ⟨u1, u2, u3, q'⟩ := bk'
    exact .bk _ b b' h h' st st' v1 v2 v3 u1 u2 u3 e0 e0' (max n n') (fun H' e => q.up e) (fun H' e => q'.up e) hd hd' (fun e he => (ok e he).mono (Nat.le_max_left ..)) (fun e he => (ok' e he).mono (Nat.le_max_right ..)) hz hz'
theorem EqR.ty {u v : V} {r : Bool} (F : EqF K C) (h : EqR K C H u v r) : ∃ x fs tb, u = .ref x ∧ IsI C x fs H ∧ TyE K C H v tb ∧ PySem.W.notFirst K C tb = true := by
  cases h with
  | @no b h st v d bk hd t =>
    obtain ⟨v1, v2, v3, q⟩ := bk
    rcases t with rfl | ⟨i, rfl⟩ | ⟨ds, rfl⟩
    · cases hd
      exact ⟨b, _, _, rfl, q.i, .non, F.n⟩
    · cases hd
      exact ⟨b, _, _, rfl, q.i, .int _, F.i⟩
    · obtain ⟨p, xs, rfl, hs, _⟩ := dp_tup hd
      exact ⟨b, _, _, rfl, q.i, .tup hs, F.t⟩
  | @bk b b' h h' st st' e0 e0' n n' bk bk' hd hd' ok ok' hz hz' =>
    obtain ⟨v1, v2, v3, q⟩ := bk
    obtain ⟨u1, u2, u3, q'⟩ := bk'
    exact ⟨b, _, _, rfl, q.i, .ins q'.i, by simp [PySem.W.notFirst]⟩
/-- the book at u is v -/
theorem te_beq (tx : Tx mg) (BB : BookF K mg C) (EF : EqF K C) (hX : In P w K mg base k X) (hk : 2 ≤ k) (h : tE X a σ H fun u H1 => tE X b σ H1 fun v H2 => ∃ r, EqR K C H2 u v r ∧ ∀ H3, Same H2 H3 → Q (.bl r) H3) (hm : behindInMarks .Eq b = false := by rfl) : tE X (.Compare a [.Eq] [b] pos) σ H Q := by
  obtain ⟨f, fd, h1, h2, h3, h4⟩ := BB.eq
  have F' : FnOk X.prog X.w X.K X.mg X.base CX0 1 f fd ["self", "other"] (spE2 X.K (R_eq K C)) := by rw [hX.prog, hX.w, hX.K, hX.mg, hX.base]; exact f_beq tx BB h3
  refine PEto (pe_cmpR (op_eqI (C := C) F' (hX.room.mono (by omega)) (by rw [hX.K]; exact h1) (by rw [hX.K]; exact h2) (by rw [hX.K]; exact h4)) pe_sem pe_sem hm) (tE_mono h fun u H1 q1 => tE_mono q1 fun v H2 ⟨r, q2, q3⟩ => ?_)
  obtain ⟨x, fs, tb, rfl, hi, ty, nf⟩ := q2.ty EF
  rw [hX.K]
  exact ⟨x, fs, atP H2, r, tb, rfl, hi, ty, nf, Same.refl H2, q2.req, q3⟩
theorem tt_beq {Q : Bool → Hp → Prop} (tx : Tx mg) (BB : BookF K mg C) (EF : EqF K C) (hX : In P w K mg base k X) (hk : 2 ≤ k) (h : tE X a σ H fun u H1 => tE X b σ H1 fun v H2 => ∃ r, EqR K C H2 u v r ∧ ∀ H3, Same H2 H3 → Q r H3) (hm : behindInMarks .Eq b = false := by rfl) : tT X (.Compare a [.Eq] [b] pos) σ H Q := by
  obtain ⟨f, fd, h1, h2, h3, h4⟩ := BB.eq
  have F' : FnOk X.prog X.w X.K X.mg X.base CX0 1 f fd ["self", "other"] (spE2 X.K (R_eq K C)) := by rw [hX.prog, hX.w, hX.K, hX.mg, hX.base]; exact f_beq tx BB h3
  refine PTto (pt_cmpR (op_eqI (C := C) F' (hX.room.mono (by omega)) (by rw [hX.K]; exact h1) (by rw [hX.K]; exact h2) (by rw [hX.K]; exact h4)) pe_sem pe_sem hm) (tE_mono h fun u H1 q1 => tE_mono q1 fun v H2 ⟨r, q2, q3⟩ => ?_)
  obtain ⟨x, fs, tb, rfl, hi, ty, nf⟩ := q2.ty EF
  rw [hX.K]
  exact ⟨x, fs, atP H2, r, tb, rfl, hi, ty, nf, Same.refl H2, q2.req, fun H' e' => ⟨r, rfl, q3 H' e'⟩⟩
/-- .. is not v, a book -/
theorem tt_bne {Q : Bool → Hp → Prop} (tx : Tx mg) (BB : BookF K mg C) (hX : In P w K mg base k X) (hk : 2 ≤ k) (h : tE X a σ H fun u H1 => tE X b σ H1 fun v H2 => ∃ (y : Addr) (h : Hl) (st : Stt) (r : Bool), v = .ref y ∧ BkAt K C y h st H2 ∧ EqR K C H2 u v r ∧ ∀ H3, Same H2 H3 → Q (!r) H3) (hm : behindInMarks .NotEq b = false := by rfl) : tT X (.Compare a [.NotEq] [b] pos) σ H Q := by
  obtain ⟨f, fd, h1, h2, h3, h4⟩ := BB.eq
  have F' : FnOk X.prog X.w X.K X.mg X.base CX0 1 f fd ["self", "other"] (spE2 X.K (R_eq K C)) := by rw [hX.prog, hX.w, hX.K, hX.mg, hX.base]; exact f_beq tx BB h3
  refine PTto (pt_cmpR (op_neI (C := C) F' (hX.room.mono (by omega)) (by rw [hX.K]; exact h1) (by rw [hX.K]; exact h2) (by rw [hX.K]; exact h4) (by rw [hX.K]; exact BB.mro) (by rw [hX.K]; exact BB.ne)) pe_sem pe_sem hm) (tE_mono h fun u H1 q1 => tE_mono q1 fun v H2 ⟨y, hy, sy, r, hv, bky, q2, q3⟩ => ?_)
  subst hv
  obtain ⟨u1, u2, u3, qy⟩ := bky
  obtain ⟨x, fs, hu, hi⟩ : ∃ x fs, u = .ref x ∧ IsI C x fs H2 := by
    cases q2 with
    | no bk hd t => obtain ⟨_, _, _, z⟩ := bk; exact ⟨_, _, rfl, z.i⟩
    | bk bk bk' hd hd' ok ok' hz hz' => obtain ⟨_, _, _, z⟩ := bk; exact ⟨_, _, rfl, z.i⟩
  subst hu
  exact ⟨x, y, fs, _, atP H2, r, rfl, rfl, hi, qy.i, Same.refl H2, q2.req, fun H' e' => ⟨!r, rfl, q3 H' e'⟩⟩
/-- as a value, of what the slots hold -/
theorem ev_beq {r : Bool} (tx : Tx mg) (BB : BookF K mg C) (EF : EqF K C) (hX : In P w K mg base k X) (hk : 2 ≤ k) (ha : Ev K X Γ Φ a s) (hb : Ev K X Γ Φ b t) (hr : ∀ u v H, Φ.p H → s.ok K H u → t.ok K H v → EqR K C H u v r) (hm : behindInMarks .Eq b = false := by rfl) : Ev K X Γ Φ (.Compare a [.Eq] [b] pos) (.d (.bool r)) := fun σ H Q hs hp kk =>
  te_beq tx BB EF hX hk (ha.go hs hp fun u H1 e1 h1 => hb.go (hs.up e1) (Φ.up e1 hp) fun v H2 e2 h2 => ⟨r, hr u v H2 (Φ.up (e1.trans e2) hp) (Sv.up e2 h1) h2, fun H3 e3 => kk _ H3 ((e1.trans e2).trans e3) (.bl r)⟩) hm
/-! ### [.. for x in (.., ..)], things of any kinds -/
def YieldsS (K : PySem.W.Frag) (J : It) (H : Hp) (ss : List Sv) : Prop := ∃ (G : Hp → Prop) (Y : Nat → Hp → V → Hp → Prop), Walk J ss.length G Y ∧ (∀ H', Same H H' → G H') ∧
  ∀ i H1 x H2, Same H H1 → Y i H1 x H2 → Same H1 H2 ∧ ∃ s, ss[i]? = some s ∧ s.ok K H2 x
theorem svall_getV {H : Hp} : ∀ {vs : List V} {ss : List Sv} {i : Nat} {x : V}, SvAll K H vs ss → vs[i]? = some x → ∃ s, ss[i]? = some s ∧ s.ok K H x
  | _, _, _, _, .nil, e => by simp at e
  | _, _, 0, _, .cons h _, e => by simp at e; subst e; exact ⟨_, rfl, h⟩
  | _, _, i + 1, _, .cons _ r, e => by simp at e; obtain ⟨s, q1, q2⟩ := svall_getV r e; exact ⟨s, by simpa using q1, q2⟩
/-- [elt for x in (e, ..)], each elt False -/
theorem ev_lcS {N : List Str} {sc scope : Scope} (i : Nat) (x : Str) (vs : List (Nat × Str)) (gs : List Str) {elt : Expr} {j : Nat} {px tpos : Pos} (hX : In P w K mg base k X) (hn : Nm N sc X)
    (Tb : btabB N sc scope [(x, i)] [(i, x)] vs gs = true) (src : EvA K X Γ Φ es ss) (hl : ss.length ≤ 1000)
    (turn : ∀ s ∈ ss, ∀ X', In P w K mg base k X' → BN [(i, x)] vs gs X' → Ev K X' ((wipeG Γ [i]).set i (some s)) Φ elt (.d (.bool false)))
    (hf : ∀ z, foldedSetIterable (.Tuple es j tpos) X.env z = pure z := by intro _; rfl) : Ev K X Γ Φ (.ListComp elt [⟨.Name x px, .Tuple es j tpos, [], 0⟩] scope pos) (.d (.list (List.replicate ss.length (.bool false)))) := fun σ H Q hs hp kk => by
  refine PEto (pe_lc hX.calm hX.nd pi_sem (btab_ok Tb hn) gB_ok ttB_ok teB_ok hf) ?_
  have bn : ∀ X', Bk X scope X' → BN [(i, x)] vs gs X' := fun X' hb => ⟨fun j _ _ e => btab_own Tb hn hb j e, fun j _ _ e => btab_var Tb hn hb j e, fun j _ e => btab_glo Tb hn hb j e⟩
  refine PIto (pi_tup pe_sem) (te_tup (src σ H _ hs hp fun us H1 e1 h1 => ⟨by rw [SvAll.len h1]; exact hl, fun p hp' => ?_⟩))
  have e2 := same_new (o := .tup us) hp'
  rw [hX.K]
  refine ⟨p, rfl, ⟨us, SqT.of upd_same⟩, ?_⟩
  intro D hD
  have sq : SqT K (upd H1 p (.tup us)) p us := SqT.of upd_same
  have e02 := e1.trans e2
  refine lc_it (walk_tup (K := K) (a := p) (xs := us)) (fun i' H' => Same (upd H1 p (.tup us)) H' ∧ ∃ acc, H' D = some (.lst acc) ∧ acc.length ≤ i' ∧ DpAll K H' acc (List.replicate i' (.bool false))) ⟨same_new hD, [], upd_same, Nat.le_refl _, .nil⟩ (fun i H' _ p => same_tup p.1 sq) ?_ ?_
  · intro i' y H2 H3 hi p' y' X' hb'
    obtain ⟨s2, acc, hacc, hal, hdp⟩ := p'
    obtain ⟨rfl, hy⟩ := y'
    obtain ⟨s, hs1, hs2⟩ := svall_getV h1 hy
    have hmem : s ∈ ss := List.mem_of_getElem? hs1
    have sl : Slots K (L2.wipe σ [i]) H3 (wipeG Γ [i]) := (hs.wipe [i]).up (e02.trans s2)
    have lo : LocAt X' i x := ((bn X' hb').o 0 rfl).2
    refine PGto (pg_name (hb'.in_ hX).nd lo.1 lo.2.1 lo.2.2) ?_
    have sl' := sl.set (i := i) (Sv.up (e2.trans s2) hs2)
    refine ⟨wipe_eq (by rw [List.length_set, wipe_length]) (fun j hj => by rw [List.getElem?_set_ne (show i ≠ j from fun z => hj (by rw [← z]; simp))]), fun X2 hb2 => ?_⟩
    refine (evts_nil (K := K) (X := X2) (Φ := Φ)) _ H3 _ sl' (Φ.up (e02.trans s2) hp) fun H4 s4 => iteT fun X3 hb3 => ?_
    refine (turn s hmem X3 (hb3.in_ hX) (bn X3 hb3)) _ H4 _ (sl'.up s4) (Φ.up ((e02.trans s2).trans s4) hp) fun y5 H5 s45 hy5 => ?_
    have s5 := s4.trans s45
    have a5 : H5 D = some (.lst acc) := s5 _ _ hacc
    have hlen := SvAll.len h1
    have hi' : i' < us.length := hi
    refine ⟨acc, a5, by rw [sizeLine_eq]; omega, fun b o e => ?_, acc ++ [y5], upd_same, by rw [List.length_append]; simp only [List.length_cons, List.length_nil]; omega, ?_⟩
    · have e5 : H5 b = some o := s5 _ _ (s2 _ _ e)
      rw [upd_ne (ne_of_none e hD)]
      exact e5
    · rw [List.replicate_succ', show (List.replicate i' (PyData.bool false) ++ [.bool false]) = List.replicate i' (PyData.bool false) ++ [.bool false] from rfl]
      exact dps_snoc (dps_nl (tupS_lst a5) (nls_all fun z hz => by rw [List.eq_of_mem_replicate hz]; exact nl_bool _) (dps_up s5 hdp)) (dp_nl (tupS_lst a5) (nl_bool _) hy5)
  · intro H' p'
    obtain ⟨s2, acc, hacc, _, hdp⟩ := p'
    rw [SvAll.len h1] at hdp
    exact kk _ H' (e02.trans s2) (.lst (SqL.of hacc) hdp)
/-- [x] * n -/
theorem ev_repL {d : PyData} {n : Nat} (ha : EvM K X Γ Φ a [d]) (hb : Ev K X Γ Φ b (.d (.int (n : Int)))) (h2 : n ≤ 1000) : Ev K X Γ Φ (.BinOp a .Mult b pos) (.d (.list (List.replicate n d))) := fun σ H Q hs hp kk => by
  refine PEto (pe_op op_rep pe_sem pe_sem) (ha σ H _ hs hp fun q zs H1 e1 q1 r1 => hb.go (hs.up e1) (Φ.up e1 hp) fun v H2 e2 h2' => ?_)
  have hl := dps_len r1
  cases r1 with | cons r1 r2 =>
  cases r2
  refine ⟨q, (n : Int), _, rfl, dp_int h2', e2 _ _ q1, by omega, by omega, by rw [sizeLine_eq]; simp; omega, fun p hp' => ?_⟩
  rw [show ((n : Int)).toNat = n from rfl, rep_flat]
  exact kk _ _ ((e1.trans e2).trans (same_new hp')) (.lst (SqL.of upd_same) (dps_rep (dp_up (e2.trans (same_new hp')) r1) n))
end
end BL
end

section
set_option Elab.async false
set_option linter.all false
set_option maxRecDepth 100000
set_option maxHeartbeats 4000000
/-! BNf: which books are alike; small facts for the law. -/
namespace BL
open PySem PySem.Spec PyProof.Rows L2
theorem sh_two {h : Hl} {n : Nat} {e : Ent} (o : e.Ok h n) : Sh 8 (.tuple [h.d, e.dB]) := sh_tup (n := 7) fun x hx => by
  rcases List.mem_cons.mp hx with rfl | hx
  · exact (sh_hl h).mono (by decide)
  · rw [List.mem_singleton.mp hx]; exact sh_dB o
theorem eqv_two {h : Hl} {n : Nat} {e : Ent} (o : e.Ok h n) : PyData.eqv (.tuple [h.d, e.dB]) (.tuple [h.d, e.dB]) = true := PySem.SeqAt.eqv_refl _ (sh_two o).c
theorem eqv_dds {h : Hl} {n : Nat} {l : List Ent} (o : ∀ e ∈ l, e.Ok h n) : PyData.eqv (ddsB l) (ddsB l) = true :=
  PySem.SeqAt.eqv_refl _ (sh_lst (n := 6) fun x hx => by obtain ⟨e, he, rfl⟩ := List.mem_map.mp hx; exact sh_ddB (o e he).d).c
section
variable {K : PySem.W.Frag} {C : Addr} {H : Hp} {b b' : Addr} {h : Hl} {r0 : Rl} {n n' : Nat} {st st' : Stt}
theorem EqR.to {u v : V} {r r' : Bool} (h : EqR K C H u v r) (e : r = r') : EqR K C H u v r' := e ▸ h
theorem StI.past_ok (s : StI h r0 n st) : ∀ e ∈ st.past, e.Ok h n := fun e he => s.al e (List.mem_append_left _ he)
theorem StI.head (s : StI h r0 n st) : st.past.head? = some ⟨none, r0, none0 h, 0⟩ := by obtain ⟨l, e⟩ := s.hd; rw [e]; rfl
theorem StI.fst (s : StI h r0 n st) : (⟨none, r0, none0 h, 0⟩ : Ent).Ok h n := s.past_ok _ (List.mem_of_head? s.head)
theorem eqr_same (s : StI h r0 n st) (hn : n ≤ 900) (bk : BkAt K C b h st H) (bk' : BkAt K C b' h st H) : EqR K C H (.ref b) (.ref b') true :=
  (EqR.bk bk bk' s.head s.head s.past_ok s.past_ok (by have := s.sz; omega) (by have := s.sz; omega)).to (by rw [eqv_two s.fst, eqv_dds s.past_ok]; rfl)
theorem ddB_some {d : Option Dd} (h : d ≠ none) : ddB d = ddO d := by cases d with
  | none => exact absurd rfl h
  | some d => rfl
theorem dds_tail {l l' : List Ent} (o : ∀ e ∈ l, e.dd ≠ none) : l.map (fun e => ddB e.dd) = l.map (fun e => ddO e.dd) := List.map_congr_left fun e he => ddB_some (o e he)
theorem eqr_cmp (s : StI h r0 n st) (s' : StI h r0 n' st') (hn : n ≤ 900) (hn' : n' ≤ 900) (bk : BkAt K C b h st H) (bk' : BkAt K C b' h st' H) : EqR K C H (.ref b') (.ref b) (PyData.eqv (ddsO st.past) (ddsO st'.past)) :=
  (EqR.bk bk' bk s'.head s.head s'.past_ok s.past_ok (by have := s'.sz; omega) (by have := s.sz; omega)).to (by
    rw [eqv_two s.fst, Bool.true_and]
    obtain ⟨l, e⟩ := s.hd
    obtain ⟨l', e'⟩ := s'.hd
    have t := s.tl
    have t' := s'.tl
    rw [e] at t ⊢
    rw [e'] at t' ⊢
    show PyData.eqvAll _ _ = PyData.eqvAll _ _
    rw [List.map_cons, List.map_cons, List.map_cons, List.map_cons]
    show (PyData.eqv .none .none && PyData.eqvAll (l'.map fun e => ddB e.dd) (l.map fun e => ddB e.dd)) = (PyData.eqv (.tuple [.none, .none]) (.tuple [.none, .none]) && PyData.eqvAll (l.map fun e => ddO e.dd) (l'.map fun e => ddO e.dd))
    rw [dds_tail (l' := []) (show ∀ e ∈ l', e.dd ≠ none from t'), dds_tail (l' := []) (show ∀ e ∈ l, e.dd ≠ none from t), PySem.W.eqvAll_comm (l.map fun e => ddO e.dd)]
    rfl)
/-- no drawn hall is that of one seat and one fare of 99 -/
theorem far_ne {e e' : Ent} (ok : h.Ok) (sing : h.fs.length = 1 → ∀ x ∈ h.fs, x ≤ 24) : PyData.eqv (.tuple [h.d, e.dB]) (.tuple [(⟨1, [99]⟩ : Hl).d, e'.dB]) = false := by
  have key : PyData.eqv h.d (⟨1, [99]⟩ : Hl).d = false := by
    have f : PyData.eqv (iT h.fs) (iT [99]) = false := by
      have n1 := ok.n1
      cases q : h.fs with
      | nil => rw [q] at n1; simp at n1
      | cons x l =>
        cases l with
        | nil =>
          have := sing (by rw [q]; rfl) x (by rw [q]; simp)
          show ((x == 99) && true) = false
          rw [show (x == (99 : Int)) = false from by simp; omega]
          rfl
        | cons y l =>
          show (PyData.eqv (.int x) (.int 99) && false) = false
          simp
    show (PyData.eqv (.int h.s) (.int 1) && (PyData.eqv (iT h.fs) (iT [99]) && true)) = false
    rw [f]; simp
  show (PyData.eqv h.d (⟨1, [99]⟩ : Hl).d && _) = false
  rw [key]; rfl
theorem one_state (s : StI h r0 n st) (l1 : st.past.length = 1) : st.past = (beg h r0).past := by
  obtain ⟨l, e⟩ := s.hd
  rw [e] at l1 ⊢
  simp at l1
  rw [l1]; rfl
end
section
variable {K : PySem.W.Frag} {C m lc lg b o tw ot : Addr} {N N' : Nat} {h : Hl} {st st' su su' s2 s2' : Stt} {H H' : Hp} {T : List (Addr × Str)}
/-- the other pair of the same machine -/
theorem Tri.pair (t : Tri K C m lc lg N b h st o su H) (t2 : Tri K C m lc lg N tw h s2 ot s2' H) (f : Fr T [m, lc, lg, tw, ot] H H') (hm : MAt m lc lg N' H') (n1 : b ≠ tw) (n2 : o ≠ ot) : Tri K C m lc lg N' b h st o su H' := by
  obtain ⟨⟨_, _, h1, h2⟩, ⟨_, h3⟩, ⟨_, _, h4⟩, _⟩ := t.kinds
  obtain ⟨_, _, ⟨_, _, k4⟩, ⟨_, k5⟩⟩ := t2.kinds
  have nb : b ∉ [m, lc, lg, tw, ot] := fun z => by
    simp only [List.mem_cons, List.not_mem_nil, or_false] at z
    rcases z with z | z | z | z | z
    · rw [z, h1] at h4; cases h4
    · rw [z, h2] at h4; cases h4
    · rw [z, h3] at h4; cases h4
    · exact n1 z
    · rw [z, k5] at h4; cases h4
  have ho := t.ow.is
  obtain ⟨_, h5⟩ := ho
  refine ⟨hm, t.bk.fr f nb, t.ow.fr f (fun z => ?_) (fun a ha => ?_), t.ne⟩
  · simp only [List.mem_cons, List.not_mem_nil, or_false] at z
    rcases z with z | z | z | z | z
    · exact t.ne z
    · rw [z, h2] at h5; cases h5
    · rw [z, h3] at h5; cases h5
    · rw [z, k4] at h5; cases h5
    · exact n2 z
  · simp only [List.mem_cons, List.not_mem_nil, or_false] at ha
    rcases ha with z | z | z | z | z
    · exact .inr (.inr fun xs y => by rw [z, h1] at y; cases y)
    · exact .inl z
    · exact .inr (.inl z)
    · exact .inr (.inr fun xs y => by rw [z, k4] at y; cases y)
    · exact .inr (.inr fun xs y => by rw [z, k5] at y; cases y)
theorem MAt.lcs {m lc lg : Addr} {N : Nat} {H : Hp} (h : MAt m lc lg N H) : H lc ≠ none ∧ H lg ≠ none ∧ H m ≠ none := by
  obtain ⟨_, _, _, mv, _⟩ := h
  exact ⟨fun z => (by rw [mv.c] at z; cases z), fun z => (by rw [mv.g] at z; cases z), fun z => (by rw [mv.m] at z; cases z)⟩
theorem MAt.f0 {m lc lg : Addr} {N : Nat} {H H' : Hp} (h : MAt m lc lg N H) (f : Fr T [] H H') : MAt m lc lg N H' := h.fr f (by simp) (by simp) (by simp)
end
end BL
end

section
set_option Elab.async false
set_option linter.all false
set_option maxRecDepth 100000
set_option maxHeartbeats 8000000
/-! BNg: law. Printed by law.py. -/
namespace BL
open PySem PySem.Spec PyProof.Rows L2
/-- the law's wish -/
def spLaw (K : PySem.W.Frag) (T : List (Addr × Str)) : Sp := fun vs H Q _ => ∃ (a : Addr) (ns : List Int), vs = [.ref a] ∧ SqL K H a (ns.map V.int) ∧ ns.length ≤ 63 ∧ LamX.Tabs T H ∧ ∀ H', Q (.bl true) H'
theorem sub_of {Γ : Gm} {v : V} {x0 : Option Sv} {l : Gm} (h : Γ = x0 :: some (.r v) :: l) (hl : l.length = 16) : Sub (none :: some (.r v) :: List.replicate 16 none) Γ := by
  subst h
  refine ⟨by simp [hl], fun i s e => ?_⟩
  match i with
  | 0 => cases e
  | 1 => exact e
  | i + 2 =>
    have e' : (List.replicate 16 (none : Option Sv))[i]? = some (some s) := e
    have := List.mem_of_getElem? e'
    simp at this
theorem min_nat (n : Nat) : ∃ q : Nat, 2 + (if (n : Int) < 4 then (n : Int) else 4) = (q : Int) ∧ q ≤ 6 := by
  by_cases h : (n : Int) < 4
  · rw [if_pos h]; exact ⟨2 + n, by omega, by omega⟩
  · rw [if_neg h]; exact ⟨6, by omega, by omega⟩
section
variable {P : Program} {w : World} {K : PySem.W.Frag} {mg : Str → Option Value} {base : Heap} {k : Nat} {T : List (Addr × Str)}
variable {C DT : Addr}
/-- x, y = a, b, one of them a cell -/
theorem tb_par2 {X : Cx} {σ : L2.St} {H : Hp} {D : Ends} {sts : List Stmt} {i j : Nat} {x y : Str} {px py pt pt2 pos : Pos} {kt k2 : Nat} {a b : Expr} (hX : In P w K mg base k X) (hi : LocAt X i x) (hj : LocAt X j y)
    (h : tE X a σ H fun v H1 => tE X b σ H1 fun u H2 => ∀ p, H2 p = none → tB X sts D ((σ.set i (some v)).set j (some u)) (upd H2 p (.tup [v, u])))
    (hw : swappedStores [.Tuple [.Name x px, .Name y py] kt pt] (.Tuple [a, b] k2 pt2) X.env = pure none) (s1 : starEach [a, b] X.env = (false, eval a X.env) :: starEach [b] X.env := by rfl) (s2 : starEach [b] X.env = (false, eval b X.env) :: starEach [] X.env := by rfl)
    (hs' : swapsWithSole [.Tuple [.Name x px, .Name y py] kt pt] (.Tuple [a, b] k2 pt2) pos.line X.env = pure false := by rfl) : tB X (.Assign [.Tuple [.Name x px, .Name y py] kt pt] (.Tuple [a, b] k2 pt2) pos :: sts) D σ H :=
  tb_unp (te_tup (ta_cons (tE_mono h fun v H1 h1 => ta_cons (tE_mono h1 fun u H2 h2 => ta_nil ⟨by simp, fun p hp => PGto (pg_tup hX.calm (pgs_cons (pg_name hX.nd hi.1 hi.2.1 hi.2.2) (pgs_cons (pg_name hX.nd hj.1 hj.2.1 hj.2.2) pgs_nil)) rfl rfl) ⟨p, [v, u], rfl, SqT.of upd_same, rfl, v, [u], rfl, u, [], rfl, rfl, h2 p hp⟩⟩) s2) s1)) hs' hw rfl
theorem okF : (⟨1, [99]⟩ : Hl).Ok := ⟨by decide, by decide, by decide, by decide, by decide, rfl⟩
theorem roF : (Rl.plain .kept [1]).Ok ⟨1, [99]⟩ := ⟨⟨⟨rfl, by decide⟩, fun z => nomatch z⟩, by decide, by decide⟩
theorem eqr_one {K : PySem.W.Frag} {C : Addr} {H : Hp} {b b' : Addr} {h : Hl} {r : Rl} {n : Nat} {st : Stt} (s : StI h r n st) (l1 : st.past.length = 1) (hn : n ≤ 900) (bk : BkAt K C b h st H) (bk' : BkAt K C b' h (beg h r) H) : EqR K C H (.ref b) (.ref b') true := by
  have e := one_state s l1
  have ok' : ∀ x ∈ (beg h r).past, x.Ok h n := fun x hx => s.past_ok x (by rw [e]; exact hx)
  refine (EqR.bk bk bk' s.head (show (beg h r).past.head? = some ⟨none, r, none0 h, 0⟩ from rfl) s.past_ok ok' (by omega) (by show 1 ≤ 900; decide)).to ?_
  rw [e, eqv_two s.fst, eqv_dds ok']; rfl
theorem Tri.pair0 {K : PySem.W.Frag} {C m lc lg b o tw ot : Addr} {N N' : Nat} {h : Hl} {st st' su su' : Stt} {H H' : Hp} {T : List (Addr × Str)} (t : Tri K C m lc lg N tw h st ot su H) (t2 : Tri K C m lc lg N b h st' o su' H) (f : Fr T [b, o] H H') (hm : MAt m lc lg N' H') (n1 : b ≠ tw) (n2 : o ≠ ot) : Tri K C m lc lg N' tw h st ot su H' :=
  t.pair t2 (f.mono fun x hx => by simp at hx ⊢; rcases hx with z | z <;> simp [z]) hm (Ne.symm n1) (Ne.symm n2)
/-- what the law's own defs do -/
structure LawF (P : Program) (w : World) (K : PySem.W.Frag) (mg : Str → Option Value) (base : Heap) (T : List (Addr × Str)) (C DT : Addr) : Prop where
  tx : Tx mg
  bb : BookF K mg C
  bt : TrialF K mg DT
  ef : EqF K C
  under : FnF K mg "under" s_under ["manager", "deed"]
  begun : EFn P w K mg base 2 "_law_begun" (spBegun K)
  hall : EFn P w K mg base 4 "_law_hall" (spHall K T)
  rule : EFn P w K mg base 5 "_law_rule" (spRule K T)
  draw : EFn P w K mg base 2 "_law_draw" (spDraw T)
  begin_ : EFn P w K mg base 1 "_law_begin_book" (spBegin K)
  led : EFn P w K mg base 13 "_law_led" (spLed K T C)
  tried : EFn P w K mg base 23 "_law_tried" (spTried K T C)
  twin : EFn P w K mg base 1 "_law_twin_of" (spTwin K)
  stands : EFn P w K mg base 7 "_law_stands" (spStands K C)
  back : EFn P w K mg base 8 "_law_back_right" (spBack K T C)
  like : EFn P w K mg base 1 "_law_like" (spLike K)
  need : PFn P w K mg base 5 "need_rule" R_need
  none_ : PFn P w K mg base 1 "none_of" R_none
  whole : PFn P w K mg base 1 "is_whole" R_whole
  step : PFn P w K mg base 6 "step_of" R_step
  more : PFn P w K mg base 1 "with_more" R_more
/-- the body of the law's loop -/
def lawBody : List Stmt := match defBody s_law with
  | _ :: .For _ _ b _ _ :: _ => b
  | _ => []

theorem law_round (F : LawF P w K mg base T C DT) {X : Cx} (hX : In P w K mg base 23 X) (hgd : X.A.guards = some []) (hn : Nm n_law (defScope s_law) X) {cM PM : Addr} (M : LamM T X cM PM) {σ : L2.St} {H : Hp} {D : Ends} {m lc lg : Addr} {N jj : Nat} {bd : List Stmt} (hbd : bd = lawBody)
    (ma : MAt m lc lg N H) (hN : N < 2 ^ 40) (hT : LamX.Tabs T H) (s0 : Slots K σ H [none, some (.r (.ref m)), some (.d (.int (jj : Int))), none, none, none, none, none, none, none, none, none, none, none, none, none, none, none])
    (kk : ∀ σ' H', MAt m lc lg (N + 1300) H' → LamX.Tabs T H' → (∃ x0 l, l.length = 16 ∧ Slots K σ' H' (x0 :: some (.r (.ref m)) :: l)) → D.nx σ' H') : tB X bd D σ H := by
  subst hbd
  obtain ⟨tx, BB, BT, EF, Fu, Fbeg, Fhall, Frule, Fd, Fbb, Fled, Ftried, Ftw, Fst, Fback, Flike, Fn, Fo, Fw, Fstep, Fmore⟩ := F
  have Vr := fun (j : Nat) {i : Nat} {x : Str} e => (tab_loc tb_law hn (i := i) (x := x) j e).1
  have L := fun (j : Nat) {i : Nat} {x : Str} e => (tab_loc tb_law hn (i := i) (x := x) j e).2
  have G := fun (j : Nat) {x : Str} e => tab_glo tb_law hn (x := x) j e
  have ng0 : nlG [none, some (.r (.ref m)), some (.d (.int (jj : Int))), none, none, none, none, none, none, none, none, none, none, none, none, none, none, none] := nlG_none (nlG_r (nlG_d (nl_int _) (nlG_none (nlG_none (nlG_none (nlG_none (nlG_none (nlG_none (nlG_none (nlG_none (nlG_none (nlG_none (nlG_none (nlG_none (nlG_none (nlG_none (nlG_none (nlG_nil))))))))))))))))))
  -- hall
  refine tb_set hX (L 3 rfl) (te_callG hX hgd Fhall (G 4 rfl) (by decide) (EvA.goT (eva_cons (ev_var (Vr 1 rfl) rfl) (eva_cons ev_int (eva_cons ev_int eva_nil))) s0 fun vs H1 e1 h1 => ?_))
  obtain ⟨v1, v2, v3, rfl, q1, q2, q3⟩ := sv3 h1
  cases (show v1 = V.ref m from q1)
  cases dp_int q2
  cases dp_int q3
  refine ⟨m, lc, lg, N, rfl, ma.up e1, by omega, fun h vh H2 ok sing dh f2 m2 => ?_⟩
  have s2 : Slots K _ H2 [none, some (.r (.ref m)), some (.d (.int (jj : Int))), some (.d (h.d)), none, none, none, none, none, none, none, none, none, none, none, none, none, none] := ((s0.up e1).fr f2 ng0).set (i := 3) (s := .d h.d) dh
  have ng3 : nlG [none, some (.r (.ref m)), some (.d (.int (jj : Int))), some (.d (h.d)), none, none, none, none, none, none, none, none, none, none, none, none, none, none] := nlG_none (nlG_r (nlG_d (nl_int _) (nlG_d (nl_hl _) (nlG_none (nlG_none (nlG_none (nlG_none (nlG_none (nlG_none (nlG_none (nlG_none (nlG_none (nlG_none (nlG_none (nlG_none (nlG_none (nlG_none (nlG_nil))))))))))))))))))
  have T2 := ((Fr.same (T := T) (S := [m, lc, lg]) e1).trans f2).tabs hT
  -- rule
  refine tb_set hX (L 4 rfl) (te_callG hX hgd Frule (G 5 rfl) (by decide) (EvA.goT (eva_cons (ev_var (Vr 1 rfl) rfl) (eva_cons (ev_var (Vr 3 rfl) rfl) eva_nil)) s2 fun vs H3 e3 h3 => ?_))
  obtain ⟨v1, v2, rfl, q1, q2⟩ := sv2 h3
  cases (show v1 = V.ref m from q1)
  refine ⟨m, lc, lg, N + 10, h, v2, rfl, m2.up e3, by omega, ok, q2, fun r vr H4 ro dr f4 m4 => ?_⟩
  have s4 : Slots K _ H4 [none, some (.r (.ref m)), some (.d (.int (jj : Int))), some (.d (h.d)), some (.d (r.d)), none, none, none, none, none, none, none, none, none, none, none, none, none] := ((s2.up e3).fr f4 ng3).set (i := 4) (s := .d r.d) dr
  have ng4 : nlG [none, some (.r (.ref m)), some (.d (.int (jj : Int))), some (.d (h.d)), some (.d (r.d)), none, none, none, none, none, none, none, none, none, none, none, none, none] := nlG_none (nlG_r (nlG_d (nl_int _) (nlG_d (nl_hl _) (nlG_d (nl_rl _) (nlG_none (nlG_none (nlG_none (nlG_none (nlG_none (nlG_none (nlG_none (nlG_none (nlG_none (nlG_none (nlG_none (nlG_none (nlG_none (nlG_nil))))))))))))))))))
  have T4 := ((Fr.same (T := T) (S := [m, lc, lg]) e3).trans f4).tabs T2
  -- book, own
  refine tb_par2 hX (L 5 rfl) (L 6 rfl) (te_newB (T := T) (Φ := MP.top) hX BB Fn Fo (G 6 rfl) (by decide) ok ro (ev_var (Vr 3 rfl) rfl) (ev_var (Vr 4 rfl) rfl) s4 trivial fun b H5 hb f5 bk5 => te_callG hX hgd Fbb (G 7 rfl) (by decide) (EvA.goT (eva_cons (ev_var (Vr 3 rfl) rfl) (eva_cons (ev_var (Vr 4 rfl) rfl) eva_nil)) (s4.fr f5 ng4) fun vs H6 e6 h6 => ?_)) (sw_by hn rfl)
  obtain ⟨v1, v2, rfl, q1, q2⟩ := sv2 h6
  have m6 := (m4.f0 f5).up e6
  refine ⟨v1, v2, h, r, lc, lg, rfl, ok, q1, q2, m6.lcs.1, m6.lcs.2.1, fun o H7z ho e7z ow7z p7 hp7 => ?_⟩
  have e7 := e7z.trans (same_new (o := .tup [.ref b, .ref o]) hp7)
  have ow7 := ow7z.up (same_new (o := .tup [.ref b, .ref o]) hp7)
  have tri7 : Tri K C m lc lg (N + 10 + 20) b h (beg h r) o (beg h r) _ := ⟨m6.up e7, (bk5.up e6).up e7, ow7, fun z => m6.lcs.2.2 (by rw [← z]; exact ho)⟩
  have s7 : Slots K _ _ [none, some (.r (.ref m)), some (.d (.int (jj : Int))), some (.d (h.d)), some (.d (r.d)), some (.r (.ref b)), some (.r (.ref o)), none, none, none, none, none, none, none, none, none, none, none] := ((((s4.fr f5 ng4).up e6).up e7).set (i := 5) (s := .r (.ref b)) rfl).set (i := 6) (s := .r (.ref o)) rfl
  have ng6 : nlG [none, some (.r (.ref m)), some (.d (.int (jj : Int))), some (.d (h.d)), some (.d (r.d)), some (.r (.ref b)), some (.r (.ref o)), none, none, none, none, none, none, none, none, none, none, none] := nlG_none (nlG_r (nlG_d (nl_int _) (nlG_d (nl_hl _) (nlG_d (nl_rl _) (nlG_r (nlG_r (nlG_none (nlG_none (nlG_none (nlG_none (nlG_none (nlG_none (nlG_none (nlG_none (nlG_none (nlG_none (nlG_none (nlG_nil))))))))))))))))))
  have T7 := (f5.trans (Fr.same (e6.trans e7))).tabs T4
  -- the early trial
  obtain ⟨ft, fdt, mt⟩ := BB.trial
  refine tb_set hX (L 7 rfl) (te_meth0 (Φ := BkVp K C b h (beg h r) _ _ _) (fs := fsB _ _ _) hX BB.cls mt.mt (f_btrial (T := T) BT mt.fn) mt.bd (by decide) (ev_var (Vr 5 rfl) rfl) s7 tri7.bk.choose_spec.choose_spec.choose_spec (fun H q => q.i) rfl fun H8 e8 => ?_)
  refine ⟨b, rfl, fun t H9 ht f9 tr9 => ?_⟩
  have tri9 := (tri7.up e8).f0 f9
  have nbt : b ≠ t := fun z => by
    obtain ⟨_, _, ⟨_, _, y⟩, _⟩ := (tri7.up e8).kinds
    rw [z, ht] at y; cases y
  have s9 : Slots K _ H9 [none, some (.r (.ref m)), some (.d (.int (jj : Int))), some (.d (h.d)), some (.d (r.d)), some (.r (.ref b)), some (.r (.ref o)), some (.r (.ref t)), none, none, none, none, none, none, none, none, none, none] := ((s7.up e8).fr f9 ng6).set (i := 7) (s := .r (.ref t)) rfl
  have ng7 : nlG [none, some (.r (.ref m)), some (.d (.int (jj : Int))), some (.d (h.d)), some (.d (r.d)), some (.r (.ref b)), some (.r (.ref o)), some (.r (.ref t)), none, none, none, none, none, none, none, none, none, none] := nlG_none (nlG_r (nlG_d (nl_int _) (nlG_d (nl_hl _) (nlG_d (nl_rl _) (nlG_r (nlG_r (nlG_r (nlG_none (nlG_none (nlG_none (nlG_none (nlG_none (nlG_none (nlG_none (nlG_none (nlG_none (nlG_none (nlG_nil))))))))))))))))))
  have T9 := f9.tabs ((Fr.same (T := T) (S := []) e8).tabs T7)
  have si9 : StI h r 1 (beg h r) := StI.begin ok ro
  -- led
  refine tb_ifN (te_callG hX hgd Fled (G 8 rfl) (by decide) (ta_cons (Ev.goT (ev_var (Vr 1 rfl) rfl) s9 fun v1 K1 g1 h1 => ta_cons (Ev.goT (ev_var (Vr 5 rfl) rfl) (s9.up g1) fun v2 K2 g2 h2 => ta_cons (Ev.goT (ev_var (Vr 3 rfl) rfl) (s9.up (g1.trans g2)) fun v3 K3 g3 h3 => ta_cons (Ev.goT (ev_var (Vr 6 rfl) rfl) (s9.up ((g1.trans g2).trans g3)) fun v4 K4 g4 h4 => ta_cons (te_add (ev_int.goT (s9.up (((g1.trans g2).trans g3).trans g4)) fun v5 K5 g5 h5 => te_drawP (Φ := MP.top) (m := m) (lc := lc) (lg := lg) (N := N + 10 + 20) (n := 5) hX hgd Fd (G 9 rfl) (by decide) (ev_var (Vr 1 rfl) rfl) ev_int (s9.up ((((g1.trans g2).trans g3).trans g4).trans g5)) trivial (tri9.ma.up ((((g1.trans g2).trans g3).trans g4).trans g5)) (by omega) (by omega) (by omega) fun i K6 i0 i1 f6 m6' => ?_))))))))
  have g15 := (((g1.trans g2).trans g3).trans g4).trans g5
  have tri10 := (tri9.up g15).fm f6 m6'
  have f10 : Fr T [m, lc, lg] H9 K6 := (Fr.same g15).trans f6
  have s10 := s9.fr f10 ng7
  have tr10 : TrEx DT t b K6 := tr9.fr f10 (fun z => tr9.out nbt tri9 (by simp at z ⊢; rcases z with z | z | z <;> simp [z]))
  cases (show v1 = V.ref m from h1)
  cases (show v2 = V.ref b from h2)
  cases (show v4 = V.ref o from h4)
  cases dp_int h5
  obtain ⟨q, hq⟩ : ∃ q : Nat, 4 + i = (q : Int) := ⟨(4 + i).toNat, by omega⟩
  refine ⟨4, i, rfl, rfl, ta_nil ?_⟩
  rw [hq]
  have dh10 : Dp K K6 v3 h.d := dp_fr f6 (nl_hl h) (dp_up ((g4.trans g5)) h3)
  refine ⟨m, lc, lg, b, o, v3, N + 10 + 20 + 1, h, r, 1, beg h r, q, rfl, by omega, tri10, by omega, ok, dh10, si9, by omega, f10.tabs T9, fun st H11 f11 tri11 si11 => ⟨rfl, ?_⟩⟩
  have s11 := s10.fr f11 ng7
  have T11 := f11.tabs (f10.tabs T9)
  have tr11 : TrEx DT t b H11 := tr10.fr f11 (tr10.out nbt tri10)
  -- the three ways
  refine tb_forR (i := 8) hX (G 1 rfl) tx.range hn.pas (L 8 rfl) (fun i σ H' => ∃ x8, Tri K C m lc lg (N + 10 + 20 + 1 + 30 * q + 200 * i) b h st o st H' ∧ TrEx DT t b H' ∧ LamX.Tabs T H' ∧ Slots K σ H' [none, some (.r (.ref m)), some (.d (.int (jj : Int))), some (.d (h.d)), some (.d (r.d)), some (.r (.ref b)), some (.r (.ref o)), some (.r (.ref t)), x8, none, none, none, none, none, none, none, none, none]) ?_
  refine ev_int.goT s11 fun v H12 e12 d12 => ?_
  refine ⟨3, dp_int d12, by decide, ⟨none, tri11.up e12, tr11.fr (Fr.same (T := T) (S := []) e12) (by simp), (Fr.same (T := T) (S := []) e12).tabs T11, s11.up e12⟩, fun wy hwy σ13 H13 iv => ?_, fun σ13 H13 iv => ?_⟩
  · obtain ⟨x8, tri13, tr13, T13, s13⟩ := iv
    have s13' : Slots K _ H13 [none, some (.r (.ref m)), some (.d (.int (jj : Int))), some (.d (h.d)), some (.d (r.d)), some (.r (.ref b)), some (.r (.ref o)), some (.r (.ref t)), some (.d (.int (wy : Int))), none, none, none, none, none, none, none, none, none] := s13.set (i := 8) (s := .d (.int (wy : Int))) (.int _)
    have ng8 : nlG [none, some (.r (.ref m)), some (.d (.int (jj : Int))), some (.d (h.d)), some (.d (r.d)), some (.r (.ref b)), some (.r (.ref o)), some (.r (.ref t)), some (.d (.int (wy : Int))), none, none, none, none, none, none, none, none, none] := nlG_none (nlG_r (nlG_d (nl_int _) (nlG_d (nl_hl _) (nlG_d (nl_rl _) (nlG_r (nlG_r (nlG_r (nlG_d (nl_int _) (nlG_none (nlG_none (nlG_none (nlG_none (nlG_none (nlG_none (nlG_none (nlG_none (nlG_none (nlG_nil))))))))))))))))))
    refine tb_ifN (te_callG hX hgd Ftried (G 10 rfl) (by decide) (EvA.goT (eva_cons (ev_var (Vr 1 rfl) rfl) (eva_cons (ev_var (Vr 5 rfl) rfl) (eva_cons (ev_var (Vr 3 rfl) rfl) (eva_cons (ev_var (Vr 6 rfl) rfl) (eva_cons (ev_var (Vr 8 rfl) rfl) eva_nil))))) s13' fun vs H14 e14 h14 => ?_))
    obtain ⟨v1, v2, v3, v4, v5, rfl, q1, q2, q3, q4, q5⟩ := sv5 h14
    cases (show v1 = V.ref m from q1)
    cases (show v2 = V.ref b from q2)
    cases (show v4 = V.ref o from q4)
    cases dp_int q5
    have tri14 := tri13.up e14
    have tr14 := tr13.fr (Fr.same (T := T) (S := []) e14) (by simp)
    refine ⟨m, lc, lg, b, o, v3, _, h, r, 1 + q, st, (wy : Int), rfl, tri14, by omega, ok, q3, si11, by omega, (Fr.same (T := T) (S := []) e14).tabs T13, fun H15 f15 tri15 => ⟨rfl, tb_nil ?_⟩⟩
    exact ⟨_, tri15.mono (by omega), tr14.fr f15 (tr14.out nbt tri14), f15.tabs ((Fr.same (T := T) (S := []) e14).tabs T13), (s13'.up e14).fr f15 ng8⟩
  obtain ⟨x8, tri13, tr13, T13, s13'⟩ := iv
  have s13 : Slots K σ13 H13 [none, some (.r (.ref m)), some (.d (.int (jj : Int))), some (.d (h.d)), some (.d (r.d)), some (.r (.ref b)), some (.r (.ref o)), some (.r (.ref t)), none, none, none, none, none, none, none, none, none, none] := s13'.sub ⟨rfl, fun i s e => by
    match i with
    | 0 => exact e
    | 1 => exact e
    | 2 => exact e
    | 3 => exact e
    | 4 => exact e
    | 5 => exact e
    | 6 => exact e
    | 7 => exact e
    | 8 => cases e
    | i + 9 => exact e⟩
  -- the early trial's block
  have T13' := T13
  refine tb_set hX (L 9 rfl) (te_callG hX hgd Ftw (G 11 rfl) (by decide) (ta_cons (Ev.goT (ev_var (Vr 6 rfl) rfl) s13 fun v H14 e14 d14 => ta_nil ?_)))
  cases (show v = V.ref o from d14)
  have tri14 := tri13.up e14
  refine ⟨lc, lg, o, st, rfl, tri14.ow, tri14.lcs.1, tri14.lcs.2, fun fq H15 hfq e15 owq => ?_⟩
  have tri15 := tri14.up e15
  have s15 : Slots K _ H15 [none, some (.r (.ref m)), some (.d (.int (jj : Int))), some (.d (h.d)), some (.d (r.d)), some (.r (.ref b)), some (.r (.ref o)), some (.r (.ref t)), none, some (.r (.ref fq)), none, none, none, none, none, none, none, none] := ((s13.up e14).up e15).set (i := 9) (s := .r (.ref fq)) rfl
  have ng9 : nlG [none, some (.r (.ref m)), some (.d (.int (jj : Int))), some (.d (h.d)), some (.d (r.d)), some (.r (.ref b)), some (.r (.ref o)), some (.r (.ref t)), none, some (.r (.ref fq)), none, none, none, none, none, none, none, none] := nlG_none (nlG_r (nlG_d (nl_int _) (nlG_d (nl_hl _) (nlG_d (nl_rl _) (nlG_r (nlG_r (nlG_r (nlG_none (nlG_r (nlG_none (nlG_none (nlG_none (nlG_none (nlG_none (nlG_none (nlG_none (nlG_none (nlG_nil))))))))))))))))))
  have nof : o ≠ fq := fun z => by
    obtain ⟨kvs, y⟩ := tri14.ow.is
    rw [z, hfq] at y; cases y
  have nfm : fq ≠ m := fun z => tri14.ma.lcs.2.2 (by rw [← z]; exact hfq)
  have tq15 : Tri K C m lc lg (N + 10 + 20 + 1 + 30 * q + 200 * 3) b h st fq st H15 := ⟨tri15.ma, tri15.bk, owq, nfm⟩
  have tr15 : TrEx DT t b H15 := tr13.fr (Fr.same (T := T) (S := []) (e14.trans e15)) (by simp)
  have T15 := (Fr.same (T := T) (S := []) (e14.trans e15)).tabs T13
  obtain ⟨e1', e2', e3', e4'⟩ := id hn
  refine tb_ifFT (tt_isnotB (te_under (j := 14) (y := "_law_one") (m := 13) hX hgd BB BT Fu (G 12 rfl) M (by decide) (by rw [e1', e2']; exact lamP_by (by decide +kernel)) rfl (fun _ _ _ _ _ _ => rfl) (Ev.goT (ev_var (Vr 7 rfl) rfl) s15 fun v H16 e16 d16 => ?_)))
  cases (show v = V.ref t from d16)
  have T16 := (Fr.same (T := T) (S := []) e16).tabs T15
  refine ⟨T16, fun H17 eN T17 => ?_⟩
  have f17 : Fr T [] H16 H17 := Fr.ext eN T17
  have tq17 := (tq15.up e16).f0 f17
  have tri17 := (tri15.up e16).f0 f17
  have tr17 : TrEx DT t b H17 := (tr15.fr (Fr.same (T := T) (S := []) e16) (by simp)).fr f17 (by simp)
  refine ⟨t, b, h, st, rfl, tr17, tq17.bk, nbt, fun H18 f18 trA bkA Y hY => ?_⟩
  have hY' : LamB P w K mg base 13 n_law _ Y := e1' ▸ hY
  have tq18 := tq17.fx f18 tr17.ins nbt
  have tri18 := tri17.fx f18 tr17.ins nbt
  have s18z := ((s15.up e16).fr f17 ng9).fr f18 ng9
  have s18 : Slots K _ H18 [none, some (.r (.ref m)), some (.d (.int (jj : Int))), some (.d (h.d)), some (.d (r.d)), some (.r (.ref b)), some (.r (.ref o)), some (.r (.ref t)), none, some (.r (.ref fq)), none, none, none, none, some (.r (.ref b)), none, none, none] := s18z.set (i := 14) (s := .r (.ref b)) rfl
  refine te_callG hY'.i hY'.g Fled (lv_glo (vs := [(1, "_law_m"), (14, "_law_one"), (3, "_law_hall_so"), (9, "_law_fresh")]) (gs := ["_law_led"]) (by decide +kernel) hY' 0 rfl) (by decide) (EvA.goT (eva_cons (ev_var (lv_var (vs := [(1, "_law_m"), (14, "_law_one"), (3, "_law_hall_so"), (9, "_law_fresh")]) (gs := ["_law_led"]) (by decide +kernel) hY' 0 rfl) rfl) (eva_cons (ev_var (lv_var (vs := [(1, "_law_m"), (14, "_law_one"), (3, "_law_hall_so"), (9, "_law_fresh")]) (gs := ["_law_led"]) (by decide +kernel) hY' 1 rfl) rfl) (eva_cons (ev_var (lv_var (vs := [(1, "_law_m"), (14, "_law_one"), (3, "_law_hall_so"), (9, "_law_fresh")]) (gs := ["_law_led"]) (by decide +kernel) hY' 2 rfl) rfl) (eva_cons (ev_var (lv_var (vs := [(1, "_law_m"), (14, "_law_one"), (3, "_law_hall_so"), (9, "_law_fresh")]) (gs := ["_law_led"]) (by decide +kernel) hY' 3 rfl) rfl) (eva_cons ev_int eva_nil))))) s18 fun vs H19 e19 h19 => ?_)
  obtain ⟨v1, v2, v3, v4, v5, rfl, q1, q2, q3, q4, q5⟩ := sv5 h19
  cases (show v1 = V.ref m from q1)
  cases (show v2 = V.ref b from q2)
  cases (show v4 = V.ref fq from q4)
  cases dp_int q5
  have tq19 := tq18.up e19
  have T19 := (Fr.same (T := T) (S := []) e19).tabs (f18.tabs T17)
  refine ⟨m, lc, lg, b, fq, v3, _, h, r, 1 + q, st, 2, rfl, by decide, tq19, by omega, ok, q3, si11, by omega, T19, fun st20 H20 f20 tq20 si20 => ?_⟩
  have trA19 := trA.fr (Fr.same (T := T) (S := []) e19) (by simp)
  refine ⟨st20, trA19.fr f20 (trA19.ex.out nbt tq19), tq20.bk, fun H21 f21 bk21 => ⟨rfl, rfl, ?_⟩⟩
  have o20 : OwAt K lc lg o st H20 := (tri18.up e19).other f20 tq19.ow.is nof
  have tri21 : Tri K C m lc lg (N + 10 + 20 + 1 + 30 * q + 200 * 3 + 30 * 2) b h st o st H21 := Tri.fb (T := T) ⟨tq20.ma, tq20.bk, o20, tri15.ne⟩ f21 bk21
  have s21 := ((s18z.up e19).fr f20 ng9).fr f21 ng9
  have T21 := f21.tabs (f20.tabs T19)
  refine tb_ifN (te_stands hX hgd Fst (G 13 rfl) (by decide) (ev_var (Vr 5 rfl) rfl) (ev_var (Vr 3 rfl) rfl) (ev_var (Vr 6 rfl) rfl) s21 tri21.bk tri21.ow ok si11 (by omega) fun H22 e22 => ⟨rfl, ?_⟩)
  -- the copy
  have tri22 := tri21.up e22
  have s22 := s21.up e22
  obtain ⟨fcp, fdcp, mcp⟩ := BB.copy
  refine tb_par hX hn (i := 10) (j := 11) rfl rfl (by decide) (by decide +kernel) (by decide +kernel) rfl (te_meth0 (Φ := BkVp K C b h st _ _ _) (fs := fsB _ _ _) hX BB.cls mcp.mt (f_bcopy (T := T) BB mcp.fn Fn Fo) mcp.bd (by decide) (ev_var (Vr 5 rfl) rfl) s22 tri22.bk.choose_spec.choose_spec.choose_spec (fun H q => q.i) rfl fun H23 e23 => ?_)
  refine ⟨b, h, st, _, rfl, (tri22.up e23).bk, ok, si11.head, ro, fun tw H24 htw f24 bkt => ?_⟩
  have tri24 := (tri22.up e23).f0 f24
  have s24 := (s22.up e23).fr f24 ng9
  have nbw : b ≠ tw := fun z => by
    obtain ⟨_, _, ⟨_, _, y⟩, _⟩ := (tri22.up e23).kinds
    rw [z, htw] at y; cases y
  refine te_callG hX hgd Ftw (G 11 rfl) (by decide) (ta_cons (Ev.goT (ev_var (Vr 6 rfl) rfl) s24 fun v H25 e25 d25 => ta_nil ?_))
  cases (show v = V.ref o from d25)
  have tri25 := tri24.up e25
  refine ⟨lc, lg, o, st, rfl, tri25.ow, tri25.lcs.1, tri25.lcs.2, fun ot H26 hot e26 owt => ?_⟩
  have tri26 := tri25.up e26
  have noo : o ≠ ot := fun z => by
    obtain ⟨kvs, y⟩ := tri25.ow.is
    rw [z, hot] at y; cases y
  have nom : ot ≠ m := fun z => tri25.ma.lcs.2.2 (by rw [← z]; exact hot)
  have triT26 : Tri K C m lc lg (N + 10 + 20 + 1 + 30 * q + 200 * 3 + 30 * 2) tw h st ot st H26 := ⟨tri26.ma, (bkt.up e25).up e26, owt, nom⟩
  have s26 : Slots K _ H26 [none, some (.r (.ref m)), some (.d (.int (jj : Int))), some (.d (h.d)), some (.d (r.d)), some (.r (.ref b)), some (.r (.ref o)), some (.r (.ref t)), none, some (.r (.ref fq)), some (.r (.ref tw)), some (.r (.ref ot)), none, none, none, none, none, none] := (((s24.up e25).up e26).set (i := 10) (s := .r (.ref tw)) rfl).set (i := 11) (s := .r (.ref ot)) rfl
  have ng11 : nlG [none, some (.r (.ref m)), some (.d (.int (jj : Int))), some (.d (h.d)), some (.d (r.d)), some (.r (.ref b)), some (.r (.ref o)), some (.r (.ref t)), none, some (.r (.ref fq)), some (.r (.ref tw)), some (.r (.ref ot)), none, none, none, none, none, none] := nlG_none (nlG_r (nlG_d (nl_int _) (nlG_d (nl_hl _) (nlG_d (nl_rl _) (nlG_r (nlG_r (nlG_r (nlG_none (nlG_r (nlG_r (nlG_r (nlG_none (nlG_none (nlG_none (nlG_none (nlG_none (nlG_none (nlG_nil))))))))))))))))))
  have T26 := (Fr.same (T := T) (S := []) (e25.trans e26)).tabs (f24.tabs ((Fr.same (T := T) (S := []) (e22.trans e23)).tabs T21))
  refine tb_ifF (tw_or (tt_bne tx BB hX (by decide) (Ev.goT (ev_var (Vr 10 rfl) rfl) s26 fun u H27 e27 d27 => Ev.goT (ev_var (Vr 5 rfl) rfl) (s26.up e27) fun v H28 e28 d28 => ?_)))
  cases (show u = V.ref tw from d27)
  cases (show v = V.ref b from d28)
  have e2628 := e27.trans e28
  refine ⟨b, h, st, true, rfl, (tri26.up e2628).bk, eqr_same si11 (by omega) (triT26.up e2628).bk (tri26.up e2628).bk, fun H29 e29 => ⟨fun z => (nomatch z), fun _ => ?_⟩⟩
  have e2629 := e2628.trans e29
  have s29 := s26.up e2629
  refine tw_or (tt_not (tt_beq tx BB EF hX (by decide) (Ev.goT (ev_var (Vr 10 rfl) rfl) s29 fun u H30 e30 d30 => Ev.goT (ev_var (Vr 5 rfl) rfl) (s29.up e30) fun v H31 e31 d31 => ?_)))
  cases (show u = V.ref tw from d30)
  cases (show v = V.ref b from d31)
  have e2631 := (e2629.trans e30).trans e31
  refine ⟨true, eqr_same si11 (by omega) (triT26.up e2631).bk (tri26.up e2631).bk, fun H32 e32 => ⟨fun z => (nomatch z), fun _ => ?_⟩⟩
  have e2632 := e2631.trans e32
  refine tw_orE (te_callG hX hgd Fled (G 8 rfl) (by decide) (EvA.goT (eva_cons (ev_var (Vr 1 rfl) rfl) (eva_cons (ev_var (Vr 10 rfl) rfl) (eva_cons (ev_var (Vr 3 rfl) rfl) (eva_cons (ev_var (Vr 11 rfl) rfl) (eva_cons ev_int eva_nil))))) (s26.up e2632) fun vs H33 e33 h33 => ?_))
  obtain ⟨v1, v2, v3, v4, v5, rfl, q1, q2, q3, q4, q5⟩ := sv5 h33
  cases (show v1 = V.ref m from q1)
  cases (show v2 = V.ref tw from q2)
  cases (show v4 = V.ref ot from q4)
  cases dp_int q5
  have e2633 := e2632.trans e33
  have tri33 := tri26.up e2633
  have triT33 := triT26.up e2633
  have T33 := (Fr.same (T := T) (S := []) e2633).tabs T26
  refine ⟨m, lc, lg, tw, ot, v3, _, h, r, 1 + q, st, 3, rfl, by decide, triT33, by omega, ok, q3, si11, by omega, T33, fun st34 H34 f34 triT34 si34 => ⟨rfl, rfl, ?_⟩⟩
  have tri34 := tri33.pair triT33 f34 triT34.ma nbw noo
  have s34 := (s26.up e2633).fr f34 ng11
  have T34 := f34.tabs T33
  -- the deeds
  obtain ⟨a1, a2, ax, ay, ow1⟩ := id tri34.ow
  obtain ⟨c1, c2, cx, cy, ow2⟩ := id triT34.ow
  have z11 := si11.sz
  have z34 := si34.sz
  refine tb_pure (Φ := (OwVp K lc lg o a1 a2 ax ay st).and (OwVp K lc lg ot c1 c2 cx cy st34)) (runS_set (s := .d (.bool (PyData.eqv (ddsO st.past) (ddsO st34.past)))) hX (L 12 rfl) (ev_eq (x := ddsO st.past) (y := ddsO st34.past) hX
    (ev_lcM [("_law_one", 14)] [(14, "_law_one")] [] [] st.past Ent.dO (fun e => ddO e.dd) hX hn (by decide +kernel) (evi_lst hX (ev_pastD hX (ev_var (Vr 6 rfl) rfl) ev_str (fun H q => q.1))) (fun e _ => ⟨_, fun X' hX' B' => ⟨tg_name hX'.nd (B'.o 0 rfl).2 (by simp), ev_ixT (ds := [ddO e.dd, e.r.d, iT e.c, .int e.p]) hX' (ev_var (B'.o 0 rfl).1 rfl) ev_int rfl⟩⟩) (fun e _ => nl_ddO _) (by omega))
    (ev_lcM [("_law_one", 14)] [(14, "_law_one")] [] [] st34.past Ent.dO (fun e => ddO e.dd) hX hn (by decide +kernel) (evi_lst hX (ev_pastD hX (ev_var (Vr 11 rfl) rfl) ev_str (fun H q => q.2))) (fun e _ => ⟨_, fun X' hX' B' => ⟨tg_name hX'.nd (B'.o 0 rfl).2 (by simp), ev_ixT (ds := [ddO e.dd, e.r.d, iT e.c, .int e.p]) hX' (ev_var (B'.o 0 rfl).1 rfl) ev_int rfl⟩⟩) (fun e _ => nl_ddO _) (by omega))
    (sh_ddsO si11.past_ok) (sh_ddsO si34.past_ok))) s34 ⟨ow1, ow2⟩ fun σ35 H35 e35 s35z => ?_
  have s35 : Slots K σ35 H35 [none, some (.r (.ref m)), some (.d (.int (jj : Int))), some (.d (h.d)), some (.d (r.d)), some (.r (.ref b)), some (.r (.ref o)), some (.r (.ref t)), none, some (.r (.ref fq)), some (.r (.ref tw)), some (.r (.ref ot)), some (.d (.bool (PyData.eqv (ddsO st.past) (ddsO st34.past)))), none, none, none, none, none] := s35z
  have ng12 : nlG [none, some (.r (.ref m)), some (.d (.int (jj : Int))), some (.d (h.d)), some (.d (r.d)), some (.r (.ref b)), some (.r (.ref o)), some (.r (.ref t)), none, some (.r (.ref fq)), some (.r (.ref tw)), some (.r (.ref ot)), some (.d (.bool (PyData.eqv (ddsO st.past) (ddsO st34.past)))), none, none, none, none, none] := nlG_none (nlG_r (nlG_d (nl_int _) (nlG_d (nl_hl _) (nlG_d (nl_rl _) (nlG_r (nlG_r (nlG_r (nlG_none (nlG_r (nlG_r (nlG_r (nlG_d (nl_bool _) (nlG_none (nlG_none (nlG_none (nlG_none (nlG_none (nlG_nil))))))))))))))))))
  have tri35 := tri34.up e35
  have triT35 := triT34.up e35
  refine tb_ifF (tw_or ((evt_ne (x := .bool (PyData.eqv (ddsO st.past) (ddsO st34.past))) (y := .bool (PyData.eqv (ddsO st.past) (ddsO st34.past))) hX (ev_beq (Φ := ⟨fun H => BkAt K C b h st H ∧ BkAt K C tw h st34 H, fun e q => ⟨q.1.up e, q.2.up e⟩⟩) (s := .r (.ref tw)) (t := .r (.ref b)) tx BB EF hX (by decide) (ev_var (Vr 10 rfl) rfl) (ev_var (Vr 5 rfl) rfl) (fun u v H q hu hv => by
    cases (show u = V.ref tw from hu)
    cases (show v = V.ref b from hv)
    exact eqr_cmp si11 si34 (by omega) (by omega) q.1 q.2)) (ev_var (Vr 12 rfl) rfl)) σ35 H35 _ s35 ⟨tri35.bk, triT35.bk⟩ fun H36 e36 => ⟨fun z => ?_, fun _ => ?_⟩))
  · have z' : (!(PyData.eqv (ddsO st.past) (ddsO st34.past) == PyData.eqv (ddsO st.past) (ddsO st34.past))) = true := z
    simp at z'
  refine tw_orE (te_stands hX hgd Fst (G 13 rfl) (by decide) (ev_var (Vr 5 rfl) rfl) (ev_var (Vr 3 rfl) rfl) (ev_var (Vr 6 rfl) rfl) (s35.up e36) (tri35.up e36).bk (tri35.up e36).ow ok si11 (by omega) fun H37 e37 => ⟨rfl, rfl, ?_⟩)
  have s37 := (s35.up e36).up e37
  have tri37 := (tri35.up e36).up e37
  have triT37 := (triT35.up e36).up e37
  -- all back, all again
  refine tb_ifF (tw_orF (te_callG hX hgd Fback (G 14 rfl) (by decide) (EvA.goT (eva_cons (ev_var (Vr 5 rfl) rfl) (eva_cons (ev_var (Vr 3 rfl) rfl) (eva_cons (ev_var (Vr 6 rfl) rfl) eva_nil))) s37 fun vs H38 e38 h38 => ?_)))
  obtain ⟨v1, v2, v3, rfl, q1, q2, q3⟩ := sv3 h38
  cases (show v1 = V.ref b from q1)
  cases (show v3 = V.ref o from q3)
  have tri38 := tri37.up e38
  have triT38 := triT37.up e38
  refine ⟨m, lc, lg, b, o, v2, _, h, r, 1 + q, st, rfl, tri38, ok, q2, si11, by omega, fun stE H39 f39 tri39 si39 l39 => ⟨rfl, ?_⟩⟩
  have s39 := (s37.up e38).fr f39 ng12
  have triT39 := triT38.pair0 tri38 f39 tri39.ma nbw noo
  refine tw_orE (te_stands hX hgd Fst (G 13 rfl) (by decide) (ev_var (Vr 10 rfl) rfl) (ev_var (Vr 3 rfl) rfl) (ev_var (Vr 11 rfl) rfl) s39 triT39.bk triT39.ow ok si34 (by omega) fun H40 e40 => ⟨rfl, rfl, ?_⟩)
  have s40 := s39.up e40
  have T40 := (Fr.same (T := T) (S := []) e40).tabs (f39.tabs ((Fr.same (T := T) (S := []) (((e35.trans e36).trans e37).trans e38)).tabs T34))
  -- a book far off
  refine tb_set hX (L 13 rfl) (te_newB (T := T) (Φ := MP.top) (h := ⟨1, [99]⟩) (r := .plain .kept [1]) hX BB Fn Fo (G 6 rfl) (by decide) okF roF (ev_tup2 ev_int (ev_tup (ds := [.int 99]) (eva_cons ev_int eva_nil) (by simp))) (ev_tup2 ev_str (ev_tup (ds := [.int 1]) (eva_cons ev_int eva_nil) (by simp))) s40 trivial fun fr H41 hfr f41 bkF => ?_)
  have tri41 := (tri39.up e40).f0 f41
  have s41 : Slots K _ H41 [none, some (.r (.ref m)), some (.d (.int (jj : Int))), some (.d (h.d)), some (.d (r.d)), some (.r (.ref b)), some (.r (.ref o)), some (.r (.ref t)), none, some (.r (.ref fq)), some (.r (.ref tw)), some (.r (.ref ot)), some (.d (.bool (PyData.eqv (ddsO st.past) (ddsO st34.past)))), some (.r (.ref fr)), none, none, none, none] := (s40.fr f41 ng12).set (i := 13) (s := .r (.ref fr)) rfl
  have ng13 : nlG [none, some (.r (.ref m)), some (.d (.int (jj : Int))), some (.d (h.d)), some (.d (r.d)), some (.r (.ref b)), some (.r (.ref o)), some (.r (.ref t)), none, some (.r (.ref fq)), some (.r (.ref tw)), some (.r (.ref ot)), some (.d (.bool (PyData.eqv (ddsO st.past) (ddsO st34.past)))), some (.r (.ref fr)), none, none, none, none] := nlG_none (nlG_r (nlG_d (nl_int _) (nlG_d (nl_hl _) (nlG_d (nl_rl _) (nlG_r (nlG_r (nlG_r (nlG_none (nlG_r (nlG_r (nlG_r (nlG_d (nl_bool _) (nlG_r (nlG_none (nlG_none (nlG_none (nlG_none (nlG_nil))))))))))))))))))
  refine tb_ifFT (tt_bne tx BB hX (by decide) (Ev.goT (ev_var (Vr 5 rfl) rfl) s41 fun u H42 e42 d42 => te_newB (T := T) (Φ := MP.top) hX BB Fn Fo (G 6 rfl) (by decide) ok ro (ev_var (Vr 3 rfl) rfl) (ev_var (Vr 4 rfl) rfl) (s41.up e42) trivial fun nb H43 hnb f43 bkN => ?_))
  cases (show u = V.ref b from d42)
  have tri43 := (tri41.up e42).f0 f43
  have s43 := (s41.up e42).fr f43 ng13
  refine ⟨nb, h, beg h r, true, rfl, bkN, eqr_one si39 l39 (by omega) tri43.bk bkN, fun H44 e44 => ⟨rfl, ?_⟩⟩
  have tri44 := tri43.up e44
  have s44 := s43.up e44
  have bkF44 : BkAt K C fr ⟨1, [99]⟩ (beg ⟨1, [99]⟩ (.plain .kept [1])) H44 := ((bkF.up e42).fr f43 (by simp)).up e44
  have T44 := (Fr.same (T := T) (S := []) e44).tabs (f43.tabs ((Fr.same (T := T) (S := []) e42).tabs (f41.tabs T40)))
  refine tb_ifFT ((evt_ne (x := .list (List.replicate 4 (.bool false))) (y := .list (List.replicate 4 (.bool false))) hX
    (ev_lcS (Φ := ⟨fun H => BkAt K C b h stE H ∧ BkAt K C fr ⟨1, [99]⟩ (beg ⟨1, [99]⟩ (.plain .kept [1])) H, fun e q => ⟨q.1.up e, q.2.up e⟩⟩) (ss := [.d h.d, .d .none, .d (.int 5), .r (.ref fr)]) 14 "_law_one" [(5, "_law_book")] [] hX hn (by decide +kernel) (eva_cons (ev_var (Vr 3 rfl) rfl) (eva_cons ev_non (eva_cons ev_int (eva_cons (ev_var (Vr 13 rfl) rfl) eva_nil)))) (by simp) (fun s hs X' hX' B' => ?_))
    (ev_repL (EvL.m (evl_one ev_bl)) ev_int (by decide))) _ H44 _ s44 ⟨tri44.bk, bkF44⟩ fun H45 e45 => ⟨by rfl, tb_nil ?_⟩)
  · refine ev_beq (s := .r (.ref b)) (t := s) tx BB EF hX' (by decide) (ev_var (B'.v 0 rfl) rfl) (ev_var (B'.o 0 rfl).1 rfl) (fun u v H q hu hv => ?_)
    cases (show u = V.ref b from hu)
    rcases List.mem_cons.mp hs with rfl | hs
    · exact .no q.1 hv (.inr (.inr ⟨_, rfl⟩))
    rcases List.mem_cons.mp hs with rfl | hs
    · exact .no q.1 hv (.inl rfl)
    rcases List.mem_cons.mp hs with rfl | hs
    · exact .no q.1 hv (.inr (.inl ⟨_, rfl⟩))
    rw [List.mem_singleton.mp hs] at hv
    cases (show v = V.ref fr from hv)
    have z39 := si39.sz
    exact (EqR.bk q.1 q.2 si39.head (StI.begin okF roF).head si39.past_ok (StI.begin okF roF).past_ok (by omega) (by decide)).to (by rw [far_ne ok sing]; rfl)
  · exact kk _ H45 ((tri44.up e45).ma.mono (by omega)) ((Fr.same (T := T) (S := []) e45).tabs T44) ⟨_, _, rfl, s44.up e45⟩
end
end BL
end

section
set_option Elab.async false
set_option linter.all false
set_option maxRecDepth 100000
set_option maxHeartbeats 8000000
/-! BNh: law, the whole. -/
namespace BL
open PySem PySem.Spec PyProof.Rows L2
abbrev hA : Hl := ⟨2, [1, 4]⟩
abbrev hB : Hl := ⟨2, [1, 5]⟩
abbrev rN : Rl := .plain .nested [1, 2]
abbrev rA : Rl := .plain .apart [1, 2]
theorem okA : hA.Ok := ⟨by decide, by decide, by decide, by decide, by decide, rfl⟩
theorem okB : hB.Ok := ⟨by decide, by decide, by decide, by decide, by decide, rfl⟩
theorem roNA : rN.Ok hA := ⟨⟨⟨rfl, by decide⟩, fun _ => rfl⟩, by decide, by decide⟩
theorem roNB : rN.Ok hB := ⟨⟨⟨rfl, by decide⟩, fun _ => rfl⟩, by decide, by decide⟩
theorem roAA : rA.Ok hA := ⟨⟨⟨rfl, by decide⟩, fun z => nomatch z⟩, by decide, by decide⟩
abbrev eN : Ent := ⟨none, rN, none0 hA, 0⟩
abbrev eC : Ent := ⟨some (.call 0), rN, (step hA rN (none0 hA) 0 0).1, (step hA rN (none0 hA) 0 0).2.1⟩
abbrev eG : Ent := ⟨some (.give 0), rN, more eC.c 0 (-1), eC.p⟩
abbrev stN : Stt := beg hA rN
abbrev stC : Stt := stCall hA stN eN 0
abbrev stG : Stt := stGive stC eC 0
theorem siN : StI hA rN 1 stN := StI.begin okA roNA
theorem siC : StI hA rN 2 stC := siN.call rfl (by decide)
theorem eC_ne : eC.c.getD 0 0 ≠ 0 := by decide +kernel
theorem siG : StI hA rN 3 stG := siC.give rfl (by decide) eC_ne
theorem past_C : stC.past = [eN, eC] := rfl
theorem past_G : stG.past = [eN, eC, eG] := rfl
theorem eq1 : (PyData.eqv (.tuple [hA.d, eN.dB]) (.tuple [hA.d, (⟨none, rA, none0 hA, 0⟩ : Ent).dB]) && PyData.eqv (ddsB stN.past) (ddsB (beg hA rA).past)) = false := by decide +kernel
theorem eq2 : (PyData.eqv (.tuple [hA.d, eN.dB]) (.tuple [hB.d, (⟨none, rN, none0 hB, 0⟩ : Ent).dB]) && PyData.eqv (ddsB stN.past) (ddsB (beg hB rN).past)) = false := by decide +kernel
theorem eq3 : (PyData.eqv (.tuple [hA.d, eN.dB]) (.tuple [hA.d, eN.dB]) && PyData.eqv (ddsB stN.past) (ddsB stG.past)) = false := by decide +kernel
abbrev stU : Stt := ⟨[eN], [eC, eG]⟩
theorem eq5 : (PyData.eqv (.tuple [hA.d, eN.dB]) (.tuple [hA.d, eN.dB]) && PyData.eqv (ddsB stN.past) (ddsB stU.past)) = true := by decide +kernel
abbrev told : List PyData := [.bool false, .bool false, .bool false, .bool true, .bool true, .bool true, .bool true]
theorem shows_told : Shows (.list told) := Shows.lst ((sw_lst (ds := told) (n := 0) (wt := 0) (fun d hd => by
  simp only [told, List.mem_cons, List.not_mem_nil, or_false] at hd
  rcases hd with rfl | rfl | rfl | rfl | rfl | rfl | rfl <;> exact sw_bool _)).mono (by decide) (by decide))
theorem eq4 : PyData.eqv (iT eN.c) (iT eG.c) = true := by decide +kernel
theorem ints_dps {K : PySem.W.Frag} {H : Hp} : ∀ ns : List Int, DpAll K H (ns.map V.int) (ns.map PyData.int)
  | [] => .nil
  | n :: ns => .cons (.int n) (ints_dps ns)
theorem BkAt.of {K : PySem.W.Frag} {C b : Addr} {h : Hl} {st : Stt} {v1 v2 v3 : V} {H : Hp} (q : BkV K C b h st v1 v2 v3 H) : BkAt K C b h st H := ⟨v1, v2, v3, q⟩
section
variable {P : Program} {w : World} {K : PySem.W.Frag} {mg : Str → Option Value} {base : Heap} {k : Nat} {T : List (Addr × Str)}
variable {X : Cx} {Γ Γ' : Gm} {Φ : MP} {a b c e tg it : Expr} {es : List Expr} {pos p : Pos} {σ : L2.St} {H : Hp} {D : Ends} {sts : List Stmt}
variable {C DT : Addr}
theorem ev_min {i j : Int} (hX : In P w K mg base k X) (g : GlAt X "min") (hm : mg "min" = none) (ha : Ev K X Γ Φ a (.d (.int i))) (hb : Ev K X Γ Φ b (.d (.int j))) (he : starEach [a, b] X.env = (false, eval a X.env) :: starEach [b] X.env := by rfl) (he2 : starEach [b] X.env = (false, eval b X.env) :: starEach [] X.env := by rfl) (hpl : (backTo pos (starEach [b] X.env)).any (·.1) = false := by rfl) : Ev K X Γ Φ (.Call (.Name "min" p) [a, b] [] pos) (.d (.int (if j < i then j else i))) :=
  ev_callB hX g (call_min2 hX.calm) hm rfl (eva_cons ha (eva_cons hb eva_nil he2) he) (fun vs H Q h _ k => by
    obtain ⟨v, u, rfl, h1, h2⟩ := sv2 h
    exact ⟨i, j, by rw [dp_int h1, dp_int h2], k _ H (Same.refl H) (.int _)⟩) he hpl
/-- the tail -/
def lawTail : List Stmt := match defBody s_law with
  | _ :: _ :: r => r
  | _ => []
theorem law_tail (F : LawF P w K mg base T C DT) {X : Cx} (hX : In P w K mg base 23 X) (hgd : X.A.guards = some []) (hn : Nm n_law (defScope s_law) X) {σ : L2.St} {H : Hp} {D : Ends} {bd : List Stmt} (hbd : bd = lawTail) (s0 : Slots K σ H (List.replicate 18 none)) (kk : ∀ H', D.rt (.bl true) H') : tB X bd D σ H := by
  subst hbd
  obtain ⟨tx, BB, BT, EF, Fu, Fbeg, Fhall, Frule, Fd, Fbb, Fled, Ftried, Ftw, Fst, Fback, Flike, Fn, Fo, Fw, Fstep, Fmore⟩ := F
  have Vr := fun (j : Nat) {i : Nat} {x : Str} e => (tab_loc tb_law hn (i := i) (x := x) j e).1
  have L := fun (j : Nat) {i : Nat} {x : Str} e => (tab_loc tb_law hn (i := i) (x := x) j e).2
  have G := fun (j : Nat) {x : Str} e => tab_glo tb_law hn (x := x) j e
  have ng0 : nlG (List.replicate 18 none) := fun i d e => by
    have := List.mem_of_getElem? e
    simp at this
  refine tb_par hX hn (i := 14) (j := 15) rfl rfl (by decide) (by decide +kernel) (by decide +kernel) rfl (te_newB (T := T) (Φ := MP.top) (h := hA) (r := rN) hX BB Fn Fo (G 6 rfl) (by decide) okA roNA (ev_tup2 ev_int (ev_tup2 ev_int ev_int)) (ev_tup2 ev_str (ev_tup2 ev_int ev_int)) s0 trivial fun b1 H1 hb1 f1 k1 => te_newB (T := T) (Φ := MP.top) (h := hA) (r := rA) hX BB Fn Fo (G 6 rfl) (by decide) okA roAA (ev_tup2 ev_int (ev_tup2 ev_int ev_int)) (ev_tup2 ev_str (ev_tup2 ev_int ev_int)) (s0.fr f1 ng0) trivial fun b2 H2 hb2 f2 k2 => ?_)
  have s2 : Slots K _ H2 [none, none, none, none, none, none, none, none, none, none, none, none, none, none, some (.r (.ref b1)), some (.r (.ref b2)), none, none] := (((s0.fr f1 ng0).fr f2 ng0).set (i := 14) (s := .r (.ref b1)) rfl).set (i := 15) (s := .r (.ref b2)) rfl
  have ng2 : nlG [none, none, none, none, none, none, none, none, none, none, none, none, none, none, some (.r (.ref b1)), some (.r (.ref b2)), none, none] := nlG_none (nlG_none (nlG_none (nlG_none (nlG_none (nlG_none (nlG_none (nlG_none (nlG_none (nlG_none (nlG_none (nlG_none (nlG_none (nlG_none (nlG_r (nlG_r (nlG_none (nlG_none nlG_nil)))))))))))))))))
  have k12 := k1.fr f2 (by simp)
  refine tb_par hX hn (i := 13) (j := 16) rfl rfl (by decide) (by decide +kernel) (by decide +kernel) rfl (te_newB (T := T) (Φ := MP.top) (h := hB) (r := rN) hX BB Fn Fo (G 6 rfl) (by decide) okB roNB (ev_tup2 ev_int (ev_tup2 ev_int ev_int)) (ev_tup2 ev_str (ev_tup2 ev_int ev_int)) s2 trivial fun b3 H3 hb3 f3 k3 => te_newB (T := T) (Φ := MP.top) (h := hA) (r := rN) hX BB Fn Fo (G 6 rfl) (by decide) okA roNA (ev_tup2 ev_int (ev_tup2 ev_int ev_int)) (ev_tup2 ev_str (ev_tup2 ev_int ev_int)) (s2.fr f3 ng2) trivial fun b4 H4 hb4 f4 k4 => ?_)
  have s4 : Slots K _ H4 [none, none, none, none, none, none, none, none, none, none, none, none, none, some (.r (.ref b3)), some (.r (.ref b1)), some (.r (.ref b2)), some (.r (.ref b4)), none] := (((s2.fr f3 ng2).fr f4 ng2).set (i := 13) (s := .r (.ref b3)) rfl).set (i := 16) (s := .r (.ref b4)) rfl
  have ng4 : nlG [none, none, none, none, none, none, none, none, none, none, none, none, none, some (.r (.ref b3)), some (.r (.ref b1)), some (.r (.ref b2)), some (.r (.ref b4)), none] := nlG_none (nlG_none (nlG_none (nlG_none (nlG_none (nlG_none (nlG_none (nlG_none (nlG_none (nlG_none (nlG_none (nlG_none (nlG_none (nlG_r (nlG_r (nlG_r (nlG_r (nlG_none nlG_nil)))))))))))))))))
  have ne : ∀ {x : Addr} {h : Hl} {st : Stt}, BkAt K C x h st H3 → x ≠ b4 := fun {x h st} q z => by
    obtain ⟨_, _, _, q⟩ := q
    obtain ⟨_, i⟩ := q.i
    rw [z, hb4] at i; cases i
  have n1 := ne (k12.fr f3 (by simp))
  have n2 := ne (k2.fr f3 (by simp))
  have n3 := ne k3
  have k14 := (k12.fr f3 (by simp)).fr f4 (by simp)
  have k24 := (k2.fr f3 (by simp)).fr f4 (by simp)
  have k34 := k3.fr f4 (by simp)
  -- near.call(0), near.give(0)
  obtain ⟨fc, fdc, mc⟩ := BB.call
  obtain ⟨fg, fdg, mg'⟩ := BB.give
  obtain ⟨fu, fdu, mu⟩ := BB.undo
  refine tb_drop (te_meth (Φ := BkVp K C b4 hA stN _ _ _) (fs := fsB _ _ _) hX BB.cls mc.mt (f_bcall (T := T) tx BB mc.fn Fw Fstep) mc.bd (by decide) (ev_var (Vr 16 rfl) rfl) s4 k4.choose_spec.choose_spec.choose_spec (fun H q => q.i) rfl fun H5 e5 => ta_cons (Ev.goT ev_int (s4.up e5) fun u H6 e6 d6 => ta_nil ?_))
  cases dp_int d6
  refine ⟨b4, hA, stN, eN, 0, rfl, k4.up (e5.trans e6), siN.bk okA (by decide) rfl, by decide, fun H7 f7 k7 => ?_⟩
  have s7 := (s4.up (e5.trans e6)).fr f7 ng4
  have k17 := (k14.up (e5.trans e6)).fr f7 (by simp [n1])
  have k27 := (k24.up (e5.trans e6)).fr f7 (by simp [n2])
  have k37 := (k34.up (e5.trans e6)).fr f7 (by simp [n3])
  refine tb_drop (te_meth (Φ := BkVp K C b4 hA stC _ _ _) (fs := fsB _ _ _) hX BB.cls mg'.mt (f_bgive (T := T) tx BB mg'.fn Fw Fmore) mg'.bd (by decide) (ev_var (Vr 16 rfl) rfl) s7 k7.choose_spec.choose_spec.choose_spec (fun H q => q.i) rfl fun H8 e8 => ta_cons (Ev.goT ev_int (s7.up e8) fun u H9 e9 d9 => ta_nil ?_))
  cases dp_int d9
  refine ⟨b4, hA, stC, eC, 0, rfl, k7.up (e8.trans e9), siC.bk okA (by decide) rfl, by decide, eC_ne, fun H10 f10 k10 => ?_⟩
  have s10 := (s7.up (e8.trans e9)).fr f10 ng4
  have k1A := (k17.up (e8.trans e9)).fr f10 (by simp [n1])
  have k2A := (k27.up (e8.trans e9)).fr f10 (by simp [n2])
  have k3A := (k37.up (e8.trans e9)).fr f10 (by simp [n3])
  obtain ⟨o1, o2, o3, q1⟩ := id k1A
  obtain ⟨p1, p2, p3, q4⟩ := id k10
  have aN : ∀ e ∈ stN.past, e.Ok hA 1 := siN.past_ok
  have aG : ∀ e ∈ stG.past, e.Ok hA 3 := siG.past_ok
  refine tb_set hX (L 17 rfl) (te_lst ((eva_cons (ev_beq (Φ := ⟨fun H => BkV K C b1 hA stN o1 o2 o3 H ∧ BkAt K C b2 hA (beg hA rA) H ∧ BkAt K C b3 hB (beg hB rN) H ∧ BkV K C b4 hA stG p1 p2 p3 H, fun e q => ⟨q.1.up e, q.2.1.up e, q.2.2.1.up e, q.2.2.2.up e⟩⟩) (s := .r (.ref b1)) (t := .r (.ref b2)) (r := false) tx BB EF hX (by decide) (ev_var (Vr 14 rfl) rfl) (ev_var (Vr 15 rfl) rfl) (fun u v H q hu hv => ?_))
    (eva_cons (ev_beq (s := .r (.ref b1)) (t := .r (.ref b3)) (r := false) tx BB EF hX (by decide) (ev_var (Vr 14 rfl) rfl) (ev_var (Vr 13 rfl) rfl) (fun u v H q hu hv => ?_))
    (eva_cons (ev_beq (s := .r (.ref b1)) (t := .r (.ref b4)) (r := false) tx BB EF hX (by decide) (ev_var (Vr 14 rfl) rfl) (ev_var (Vr 16 rfl) rfl) (fun u v H q hu hv => ?_))
    (eva_cons (Ev.to (t := .d (.bool true)) (ev_eq (x := iT eN.c) (y := iT eG.c) hX (ev_bsold (en := eN) hX BB (by decide) (fun H q => q.1) (ev_var (Vr 14 rfl) rfl) rfl) (ev_bsold (en := eG) hX BB (by decide) (fun H q => q.2.2.2) (ev_var (Vr 16 rfl) rfl) rfl) ((sh_iT _).shaped (by decide)) ((sh_iT _).shaped (by decide))) (by rw [eq4])) eva_nil)))) _ H10 _ s10 ⟨q1, k2A, k3A, q4⟩ fun vs H11 e11 h11 => ⟨by rw [SvAll.len h11]; decide, fun q hq => ?_⟩))
  · cases (show u = V.ref b1 from hu)
    cases (show v = V.ref b2 from hv)
    exact (EqR.bk (BkAt.of q.1) q.2.1 siN.head (StI.begin okA roAA).head aN (StI.begin okA roAA).past_ok (by decide) (by decide)).to eq1
  · cases (show u = V.ref b1 from hu)
    cases (show v = V.ref b3 from hv)
    exact (EqR.bk (BkAt.of q.1) q.2.2.1 siN.head (StI.begin okB roNB).head aN (StI.begin okB roNB).past_ok (by decide) (by decide)).to eq2
  · cases (show u = V.ref b1 from hu)
    cases (show v = V.ref b4 from hv)
    exact (EqR.bk (BkAt.of q.1) (BkAt.of q.2.2.2) siN.head siG.head aN aG (by decide) (by decide)).to eq3
  obtain ⟨w1, w2, w3, w4, rfl, r1, r2, r3, r4⟩ := sv4 h11
  cases dp_bl r1
  cases dp_bl r2
  cases dp_bl r3
  cases dp_bl r4
  have e12 : Same H10 (upd H11 q (.lst [.bl false, .bl false, .bl false, .bl true])) := e11.trans (same_new hq)
  have hq12 : upd H11 q (.lst [.bl false, .bl false, .bl false, .bl true]) q = some (.lst [.bl false, .bl false, .bl false, .bl true]) := upd_same
  have s12 : Slots K _ _ [none, none, none, none, none, none, none, none, none, none, none, none, none, some (.r (.ref b3)), some (.r (.ref b1)), some (.r (.ref b2)), some (.r (.ref b4)), some (.r (.ref q))] := (s10.up e12).set (i := 17) (s := .r (.ref q)) rfl
  have ng12 : nlG [none, none, none, none, none, none, none, none, none, none, none, none, none, some (.r (.ref b3)), some (.r (.ref b1)), some (.r (.ref b2)), some (.r (.ref b4)), some (.r (.ref q))] := nlG_none (nlG_none (nlG_none (nlG_none (nlG_none (nlG_none (nlG_none (nlG_none (nlG_none (nlG_none (nlG_none (nlG_none (nlG_none (nlG_r (nlG_r (nlG_r (nlG_r (nlG_r nlG_nil)))))))))))))))))
  have k1B := k1A.up e12
  have k4B := k10.up e12
  generalize upd H11 q (.lst [.bl false, .bl false, .bl false, .bl true]) = H12 at e12 hq12 s12 k1B k4B ⊢
  have nq : q ≠ b4 := fun z => by
    obtain ⟨_, _, _, y⟩ := k4B
    obtain ⟨_, i⟩ := y.i
    rw [← z, hq12] at i; cases i
  refine tb_set hX (L 17 rfl) (PEto (pe_op op_cat pe_sem pe_sem) (Ev.goT (ev_var (Vr 17 rfl) rfl) s12 fun v H13 e13 d13 => te_lst (ta_cons (te_meth0 (Φ := BkVp K C b4 hA stG _ _ _) (fs := fsB _ _ _) hX BB.cls mu.mt (f_bundo (T := T) tx BB mu.fn) mu.bd (by decide) (ev_var (Vr 16 rfl) rfl) (s12.up e13) (k4B.up e13).choose_spec.choose_spec.choose_spec (fun H q => q.i) rfl fun H14 e14 => ?_))))
  cases (show v = V.ref q from d13)
  refine ⟨b4, hA, stG, rfl, (k4B.up e13).up e14, siG.ne, by decide, fun z => absurd z (by decide), fun l x hl ln H15 f15 k15 => ?_⟩
  obtain ⟨rfl, hx⟩ := List.append_inj' (show [eN, eC] ++ [eG] = l ++ [x] from hl) rfl
  cases hx
  have s15 := ((s12.up e13).up e14).fr f15 ng12
  refine ta_cons (te_meth0 (Φ := BkVp K C b4 hA ⟨[eN, eC], eG :: stG.later⟩ _ _ _) (fs := fsB _ _ _) hX BB.cls mu.mt (f_bundo (T := T) tx BB mu.fn) mu.bd (by decide) (ev_var (Vr 16 rfl) rfl) s15 k15.choose_spec.choose_spec.choose_spec (fun H q => q.i) rfl fun H16 e16 => ?_)
  refine ⟨b4, hA, ⟨[eN, eC], eG :: stG.later⟩, rfl, k15.up e16, (fun z => nomatch z), by decide, fun z => absurd z (by decide), fun l x hl ln H17 f17 k17' => ?_⟩
  obtain ⟨rfl, hx⟩ := List.append_inj' (show [eN] ++ [eC] = l ++ [x] from hl) rfl
  cases hx
  have s17 := (s15.up e16).fr f17 ng12
  have f12 : Fr T [b4] H12 H17 := (Fr.same (e13.trans e14)).trans (f15.trans ((Fr.same e16).trans f17))
  have k1C := k1B.fr f12 (by simp [n1])
  refine ta_cons (te_beq tx BB EF hX (by decide) (Ev.goT (ev_var (Vr 14 rfl) rfl) s17 fun u H18 e18 d18 => Ev.goT (ev_var (Vr 16 rfl) rfl) (s17.up e18) fun v H19 e19 d19 => ?_))
  cases (show u = V.ref b1 from d18)
  cases (show v = V.ref b4 from d19)
  have e1719 := e18.trans e19
  refine ⟨true, (EqR.bk (n := 1) (n' := 3) (k1C.up e1719) (k17'.up e1719) siN.head (show stU.past.head? = some eN from rfl) aN (fun e he => aG e (by rw [past_G]; rw [List.mem_singleton.mp he]; simp)) (by decide) (by decide)).to eq5, fun H20 e20 => ta_nil ⟨by simp, fun p hp => ?_⟩⟩
  have e1720 := e1719.trans e20
  have g21 : Fr T [b4] H12 (upd H20 p (.lst [.bl true, .bl true, .bl true])) := f12.trans (Fr.same (e1720.trans (same_new hp)))
  refine ⟨q, p, [.bl false, .bl false, .bl false, .bl true], [.bl true, .bl true, .bl true], rfl, rfl, g21.at hq12 (by simp [nq]), upd_same, by rw [sizeLine_eq]; simp, fun p2 hp2 => ?_⟩
  have s21 : Slots K _ _ [none, none, none, none, none, none, none, none, none, none, none, none, none, some (.r (.ref b3)), some (.r (.ref b1)), some (.r (.ref b2)), some (.r (.ref b4)), some (.r (.ref p2))] := (((s17.up e1720).up (same_new hp)).up (same_new (o := .lst ([.bl false, .bl false, .bl false, .bl true] ++ [.bl true, .bl true, .bl true])) hp2)).set (i := 17) (s := .r (.ref p2)) rfl
  refine tb_retE (te_callG hX hgd Flike (G 15 rfl) (by decide) (ta_cons (Ev.goT (ev_var (Vr 17 rfl) rfl) s21 fun u H22 e22 d22 => ta_cons (Ev.goT (ev_lst (ds := told) (eva_cons ev_bl (eva_cons ev_bl (eva_cons ev_bl (eva_cons ev_bl (eva_cons ev_bl (eva_cons ev_bl (eva_cons ev_bl eva_nil))))))) (by decide)) (s21.up e22) fun u2 H23 e23 d23 => ta_nil ?_))))
  cases (show u = V.ref p2 from d22)
  exact ⟨.ref p2, u2, .list told, rfl, .lst (SqL.of ((e22.trans e23) _ _ upd_same)) (.cons (.bl _) (.cons (.bl _) (.cons (.bl _) (.cons (.bl _) (.cons (.bl _) (.cons (.bl _) (.cons (.bl _) .nil))))))), d23, shows_told, fun H24 _ => kk H24⟩
theorem f_law (F : LawF P w K mg base T C DT) (Fl : LamF K mg base T "law" s_law ["_law_script"]) : EFn P w K mg base 24 "law" (spLaw K T) := by
  refine efn_ofL Fl sc_law (fun vs H Q E h => by obtain ⟨_, _, rfl, _⟩ := h; rfl) (fun X hX hgd hn ⟨cM, PM, M⟩ vs H Q h => ?_) fun vs H Q E h => h
  have F' := F
  obtain ⟨tx, BB, BT, EF, Fu, Fbeg, Fhall, Frule, Fd, Fbb, Fled, Ftried, Ftw, Fst, Fback, Flike, Fn, Fo, Fw, Fstep, Fmore⟩ := F
  have Vr := fun (j : Nat) {i : Nat} {x : Str} e => (tab_loc tb_law hn (i := i) (x := x) j e).1
  have L := fun (j : Nat) {i : Nat} {x : Str} e => (tab_loc tb_law hn (i := i) (x := x) j e).2
  have G := fun (j : Nat) {x : Str} e => tab_glo tb_law hn (x := x) j e
  obtain ⟨a, ns, rfl, ha, hns, hT, kk⟩ := h
  have dp0 : Dp K H (.ref a) (.list (ns.map PyData.int)) := .lst ha (ints_dps ns)
  have s0 : Slots K (L2.start n_law [.ref a]) H (some (.d (.list (ns.map PyData.int))) :: List.replicate 17 none) := startS_slots (N := n_law) (ss := [.d (.list (ns.map PyData.int))]) (.cons dp0 .nil)
  refine tb_set hX (L 1 rfl) (te_callG hX hgd Fbeg (G 0 rfl) (by decide) (ta_cons (Ev.goT (ev_var (Vr 0 rfl) rfl) s0 fun v H1 e1 d1 => ta_nil ?_)))
  obtain ⟨a', xs, rfl, hs', hd'⟩ := dp_lst d1
  refine ⟨a', ns, rfl, by rw [← dps_ints hd']; exact hs', by omega, fun m lc lg H2 hm hlc hlg e2 ma => ?_⟩
  have s2 : Slots K _ H2 (some (.d (.list (ns.map PyData.int))) :: some (.r (.ref m)) :: List.replicate 16 none) := ((s0.up e1).up e2).set (i := 1) (s := .r (.ref m)) rfl
  have T2 := (Fr.same (T := T) (S := []) (e1.trans e2)).tabs hT
  refine tb_forR (i := 2) hX (G 1 rfl) tx.range hn.pas (L 2 rfl) (fun i σ H' => ∃ x0 l, l.length = 16 ∧ MAt m lc lg (1300 * i) H' ∧ LamX.Tabs T H' ∧ Slots K σ H' (x0 :: some (.r (.ref m)) :: l)) ?_
  refine te_add (ev_int.goT s2 fun u H3 e3 h3 => (ev_min hX (G 2 rfl) tx.min ev_int (ev_lenL hX (G 3 rfl) tx.len (ev_var (Vr 0 rfl) rfl))).goT (s2.up e3) fun u2 H4 e4 h4 => ?_)
  have e24 := e3.trans e4
  obtain ⟨q, hq, hq6⟩ := min_nat ns.length
  refine ⟨2, _, dp_int h3, dp_int h4, q, congrArg V.int (by rw [List.length_map]; exact hq), by omega, ⟨_, _, rfl, (ma.up e24).mono (by omega), (Fr.same (T := T) (S := []) e24).tabs T2, s2.up e24⟩, fun j hj σ5 H5 iv => ?_, fun σ5 H5 iv => ?_⟩
  · obtain ⟨x0, l, hl, ma5, T5, s5⟩ := iv
    have s5' := (s5.sub (sub_of rfl hl)).set (i := 2) (v := .int (j : Int)) (s := .d (.int (j : Int))) (.int _)
    exact law_round F' hX hgd hn M (N := 1300 * j) (jj := j) rfl ma5 (by omega) T5 s5' fun σ' H' ma' T' ⟨x0', l', hl', s'⟩ => ⟨x0', l', hl', ma'.mono (by omega), T', s'⟩
  · obtain ⟨x0, l, hl, ma5, T5, s5⟩ := iv
    exact law_tail F' hX hgd hn rfl (s5.sub ⟨by simp [hl], fun i s e => by
      have := List.mem_of_getElem? e
      simp at this⟩) fun H' => kk H'
end
end BL
end

section
set_option Elab.async false
set_option linter.all false
set_option maxRecDepth 100000
set_option maxHeartbeats 4000000
/-! BNi: the end of a law whose def prints by repr: no guard stands about the caller. -/
namespace BL
open PySem PySem.Spec PyProof.Rows L2
section
variable {P : Program} {w : World} {K : PySem.W.Frag} {mg mb : Str → Option Value} {a : Addr} {ts : List Addr} {hp : Heap} {vs : List Value} {ns : List Int}
/-- what is tracked at the start: the tables, the script unless K holds it -/
def startH (K : PySem.W.Frag) (a : Addr) (ts : List Addr) (vs : List Value) (ns : List Int) : Hp := fun x => if x ∈ ts then some (.tbl #[]) else if x = a ∧ (K.lookup a).isNone = true then some (.frz { cls := .type "list", data := .seq vs.toArray } (.lst (ns.map V.int))) else none
theorem startH_tab {x : Addr} (h : x ∈ ts) : startH K a ts vs ns x = some (.tbl #[]) := if_pos h
theorem startH_out {x : Addr} (h1 : x ∉ ts) (h2 : x ≠ a) : startH K a ts vs ns x = none := (if_neg h1).trans (if_neg fun z => h2 z.1)
theorem startH_cases (x : Addr) : (x ∈ ts ∧ startH K a ts vs ns x = some (.tbl #[])) ∨ (x = a ∧ K.lookup a = none ∧ startH K a ts vs ns x = some (.frz { cls := .type "list", data := .seq vs.toArray } (.lst (ns.map V.int)))) ∨ startH K a ts vs ns x = none := by
  by_cases h1 : x ∈ ts
  · exact .inl ⟨h1, startH_tab h1⟩
  · by_cases h2 : x = a ∧ (K.lookup a).isNone = true
    · exact .inr (.inl ⟨h2.1, by simpa using h2.2, (if_neg h1).trans (if_pos h2)⟩)
    · exact .inr (.inr ((if_neg h1).trans (if_neg h2)))
/-- the heap of the call: tables empty, the script's list, K -/
structure Floor (K : PySem.W.Frag) (a : Addr) (ts : List Addr) (vs : List Value) (ns : List Int) (hp : Heap) : Prop where
  kin : K.In hp
  tab : ∀ x ∈ ts, hp.get? x = some { cls := .none, data := .fields #[] }
  out : ∀ x ∈ ts, K.lookup x = none
  arg : hp.get? a = some { cls := .type "list", data := .seq vs.toArray }
  nums : IntsAre vs ns
  few : ns.length ≤ sizeLine
theorem Floor.aOut (F : Floor K a ts vs ns hp) : a ∉ ts := fun z => by
  have q := (F.tab a z).symm.trans F.arg
  have q2 : Data.fields #[] = Data.seq vs.toArray _ := congrArg Obj.data (Option.some.inj q)
  cases q2
/-- what is no list and no empty record is not tracked -/
theorem Floor.free (F : Floor K a ts vs ns hp) {x : Addr} {o : Obj} (e : hp.get? x = some o) (n1 : ∀ us k, o.data ≠ .seq us k) (n2 : o.data ≠ .fields #[]) : startH K a ts vs ns x = none := by
  refine startH_out (fun z => ?_) fun z => ?_
  · rw [F.tab x z] at e
    cases e
    exact n2 rfl
  · rw [z, F.arg] at e
    cases e
    exact n1 _ _ rfl
theorem Floor.ofK (F : Floor K a ts vs ns hp) {x : Addr} {o : Obj} (e : K.lookup x = some o) : startH K a ts vs ns x = none := by
  rcases startH_cases (K := K) (a := a) (ts := ts) (vs := vs) (ns := ns) x with ⟨q, _⟩ | ⟨rfl, q, _⟩ | q
  · rw [F.out x q] at e; cases e
  · rw [q] at e; cases e
  · exact q
theorem Floor.names (F : Floor K a ts vs ns hp) {x : Addr} {m : Str → Option Value} (h : hp.Ns x m) : (hidT hp (startH K a ts vs ns)).Ns x m := by
  obtain ⟨o, es, ep, e, d, r⟩ := h
  exact ⟨o, es, ep, hidT_get e (F.free e (fun us k z => (by rw [d] at z; cases z)) fun z => (by rw [d] at z; cases z)), d, r⟩
theorem Floor.hok (F : Floor K a ts vs ns hp) : HOk P w (startH K a ts vs ns) hp := fun x u e => by
  rcases startH_cases (K := K) (a := a) (ts := ts) (vs := vs) (ns := ns) x with ⟨h1, q⟩ | ⟨rfl, h1, q⟩ | q
  · rw [q] at e
    cases e
    exact F.tab x h1
  · rw [q] at e
    cases e
    exact ⟨F.arg, by rw [List.length_map]; exact F.few, vs, _, vals_ints F.nums, F.arg⟩
  · rw [q] at e; cases e
theorem Floor.script (F : Floor K a ts vs ns hp) : SqL K (startH K a ts vs ns) a (ns.map V.int) := by
  cases hk : K.lookup a with
  | none =>
    rcases startH_cases (K := K) (a := a) (ts := ts) (vs := vs) (ns := ns) a with ⟨h1, _⟩ | ⟨_, _, q⟩ | q
    · exact absurd h1 F.aOut
    · exact .inl (.inr ⟨_, q⟩)
    · have q' := (if_neg F.aOut).symm.trans q
      rw [if_pos ⟨rfl, by rw [hk]; rfl⟩] at q'
      cases q'
  | some o =>
    have e := (F.kin a o hk).symm.trans F.arg
    cases e
    have hl := F.nums.length
    exact .inr ⟨_, vs.toArray, _, hk, rfl, rfl, rfl, by rw [List.size_toArray, hl]; exact F.few, by simpa using vals_ints F.nums⟩
theorem Floor.inB (F : Floor K a ts vs ns hp) : K.In (hidT hp (startH K a ts vs ns)) := fun x o e => hidT_get (F.kin x o e) (F.ofK e)
theorem Floor.env (F : Floor K a ts vs ns hp) {s : Shared} (es : s.heap = hp) (G : hp.Ns mainGlobals mg) (Bn : hp.Ns builtinsNs mb) (bb : ∀ x : Str, x ≠ "__name__" → mb x = bootBuiltins x) (lim : hp.NoLimit) (gs : s.gens = #[]) : Env0 P w K mg (hidT hp (startH K a ts vs ns)) callerA [] s (startH K a ts vs ns) := by
  subst es
  obtain ⟨mc, l1, l2⟩ := lim
  exact ⟨rfl, ⟨F.inB, F.names G, ⟨mb, F.names Bn, bb⟩, ⟨mc, F.names l1, l2⟩⟩, fun x o e => of_hidT e, Nat.le_of_eq (hidT_size _ _), trivial, fun x hx => (nomatch (show x ∈ ([] : List Addr) from hx)), F.hok, .of_eq gs⟩
theorem Floor.made (F : Floor K a ts vs ns hp) (G : hp.Ns mainGlobals mg) (bm : ∃ (m : Addr) (ob : Obj), mg "__builtins__" = some (.ref m) ∧ m ≠ builtinsNs ∧ hp.get? m = some ob ∧ ob.cls = .type "module" ∧ ob.dict = some builtinsNs ∧ ob.data = .plain)
    {c x : Addr} (hx : x ∈ ts) (hc : PySem.W.codeHdIn K c x = true) : LamX.TabB (hidT hp (startH K a ts vs ns)) mg c x := by
  have main : x ≠ mainGlobals := fun z => by
    obtain ⟨o, es, ep, e, d, _⟩ := G
    rw [← z, F.tab x hx] at e
    cases e
    cases d
  obtain ⟨m, ob, b1, b2, b3, b4, b5, b6⟩ := bm
  have n1 : m ≠ mainGlobals := fun z => by
    obtain ⟨o, es, ep, e, d, _⟩ := G
    rw [← z, b3] at e
    cases e
    rw [b6] at d
    cases d
  have n2 : m ≠ x := fun z => by
    rw [z, F.tab x hx] at b3
    cases b3
    cases b6
  exact NdefX.tabB_of_K F.inB hc ⟨m, ob, b1, b2, n1, n2, hidT_get b3 (F.free b3 (fun us k z => (by rw [b6] at z; cases z)) fun z => (by rw [b6] at z; cases z)), b4, b5, b6⟩ (Ne.symm main)
/-- what was there is there behind the call; the tables have grown -/
theorem Floor.kept (F : Floor K a ts vs ns hp) (cd : ∀ x ∈ ts, ∃ c, PySem.W.codeHdIn K c x = true) {H' : Hp} {h' : Heap} (un : Un [] [] (startH K a ts vs ns) H' hp h') (hk : HOk P w H' h') : OldK hp h' := by
  have grown : ∀ x ∈ ts, ∃ more : Array Value, h'.get? x = some { cls := .none, data := .fields more } := fun x hx => by
    obtain ⟨more, q⟩ := un.tbls x #[] (startH_tab hx)
    exact ⟨_, hk x _ q⟩
  have other : ∀ x o, x ∉ ts → hp.get? x = some o → h'.get? x = some o := fun x o nx e => by
    rcases startH_cases (K := K) (a := a) (ts := ts) (vs := vs) (ns := ns) x with ⟨q, _⟩ | ⟨rfl, _, q⟩ | q
    · exact absurd q nx
    · obtain ⟨e2, _⟩ := hk x _ (un.frzs x _ _ q)
      rw [← e, F.arg]
      exact e2
    · exact un.keep x o e q (by simp) (by simp)
  refine ⟨fun x o e => ?_, fun x o e => ?_⟩
  · by_cases hx : x ∈ ts
    · obtain ⟨more, q⟩ := grown x hx
      obtain ⟨c, hc⟩ := cd x hx
      have e' := (F.tab x hx).symm.trans e
      cases e'
      exact .inr (.inl ⟨((PySem.W.codeHd_of_K F.kin hc).tab (F.tab x hx)).isCodeTable, rfl, #[], more, rfl, by rw [Array.empty_append]; exact q⟩)
    · exact .inl (other x o hx e)
  · by_cases hx : x ∈ ts
    · obtain ⟨more, q⟩ := grown x hx
      exact ⟨_, q⟩
    · exact ⟨o, other x o hx e⟩
end
/-- what is known of the law at the top's end: its tables, what it keeps to -/
def LawG (P : Program) (w : World) (n k : Nat) (x : Str) (mg : Str → Option Value) (h : Heap) : Prop :=
  ∃ (K : PySem.W.Frag) (cs : List (Addr × Addr)) (sp : Sp), K.In h ∧ (∀ q ∈ cs, h.get? q.2 = some { cls := .none, data := .fields #[] }) ∧ (∀ q ∈ cs, K.lookup q.2 = none) ∧ (∀ q ∈ cs, PySem.W.codeHdIn K q.1 q.2 = true) ∧
    (∀ (H : Hp) (a : Addr) (ns : List Int), ns.length ≤ n → (∀ q ∈ cs, H q.2 = some (.tbl #[])) → SqL K H a (ns.map V.int) → sp [.ref a] H (fun v _ => v = .bl true) fun _ _ _ => False) ∧
    ∀ base : Heap, K.In base → base.Ns mainGlobals mg → (∀ q ∈ cs, LamX.TabB base mg q.1 q.2) → EFn P w K mg base k x sp
theorem walkG {l : PySem.W.OpenLaw} {n k : Nat} {q : Program} {loose : List Str} {XP : (Str → Option Value) → Heap → Prop} {YP : World → Heap → Prop} {d : DefRec}
    (hn : l.most = some n) (hn2 : n ≤ sizeLine) (hdf : d.params.defaults = []) (hr : Room k callerA)
    (F : ∀ (w : World) (mg : Str → Option Value) (h : Heap), YP w h → h.Ns mainGlobals mg → LawG l.prog w n k d.name mg h) :
    PySem.W.WalkO q loose XP YP l.row.toRowW d [] (fun f vs => PySem.call f vs) := by
  refine Att.attach_callB hn hdf fun w s₀ s₁ mg mb fa o pm cd doc a vs ns G Y ho hd hcd hmg hobj hints hlen hbits hg => ?_
  obtain ⟨K, cs, sp, KX, hT, nT, Cc, hsp, hF⟩ := F w mg _ Y G.T.g
  have inT : ∀ y ∈ cs.map Prod.snd, ∃ q ∈ cs, q.2 = y := fun y hy => by
    obtain ⟨q, h1, h2⟩ := List.mem_map.mp hy
    exact ⟨q, h1, h2⟩
  have fl : Floor K a (cs.map Prod.snd) vs ns s₁.heap := ⟨KX, fun y hy => by obtain ⟨q, h1, rfl⟩ := inT y hy; exact hT q h1, fun y hy => by obtain ⟨q, h1, rfl⟩ := inT y hy; exact nT q h1, hobj, hints, Nat.le_trans hlen hn2⟩
  have tb : ∀ q ∈ cs, startH K a (cs.map Prod.snd) vs ns q.2 = some (.tbl #[]) := fun q hq => startH_tab (List.mem_map_of_mem hq)
  obtain ⟨f, fd, ps, hm, kp, hb, F'⟩ := hF _ fl.inB (fl.names G.T.g) fun q hq => fl.made G.T.g G.T.bmain (List.mem_map_of_mem hq) (Cc q hq)
  have ef := hm.symm.trans hmg
  cases ef
  have hq := hsp _ a ns hlen tb fl.script
  have hb' := hb s₁ [.ref a] KX (F'.len _ _ _ _ hq)
  refine codeAny_mono (F'.run callerA [] s₁ (startH K a (cs.map Prod.snd) vs ns) ⟨[.ref a], []⟩ [.ref a] [.ref a] _ _ rfl hr (fl.env rfl G.T.g G.T.b G.T.builtins G.T.nolimit hg) hb' (.cons rfl .nil) hq) fun r s' h => ?_
  cases r with
  | error e => exact False.elim h
  | ok f =>
    cases f with
    | ret u =>
      obtain ⟨v, H', os, bare, un, hk, rv, ev⟩ := h
      subst ev
      cases (show u = Value.bool true from rv)
      exact ⟨rfl, fl.kept (fun y hy => by obtain ⟨q, h1, rfl⟩ := inT y hy; exact ⟨q.1, Cc q h1⟩) un hk, os, bare⟩
    | next => exact False.elim h
    | brk => exact False.elim h
    | cont => exact False.elim h
end BL
end

section
set_option Elab.async false
set_option linter.all false
set_option maxRecDepth 100000
set_option maxHeartbeats 4000000
/-! BNj: what the head tells of the written part. Printed by fin.py. -/
namespace BL
open PySem PySem.Spec PyProof.Rows L2
/-! ### what is looked at -/
/-- the getter of the property f of the class at C -/
def getA (K : PySem.W.Frag) (C : Addr) (f : Str) : Addr := match PySem.W.recIn K (He.ma K C f) "property" with
  | some (.ref g :: _) => g
  | _ => 0
def propB (K : PySem.W.Frag) (C : Addr) (f : Str) : Bool := He.eqO (PySem.W.findIn K (.ref C) f) (some (some (.ref (He.ma K C f)))) && (He.eqO (PySem.W.specialIn K (.ref (He.ma K C f)) "__get__") (some (some (.builtin "property.__get__"))) &&
  (decide (PySem.W.takesIn K (.ref (He.ma K C f)) = some true) && (match PySem.W.recIn K (He.ma K C f) "property" with
    | some (.ref _ :: _) => true
    | _ => false)))
theorem propB_ok {K : PySem.W.Frag} {C : Addr} {f : Str} (h : propB K C f = true) : PropOf K C f (He.ma K C f) (getA K C f) := by
  obtain ⟨h1, h⟩ := He.ba h
  obtain ⟨h2, h⟩ := He.ba h
  obtain ⟨h3, h4⟩ := He.ba h
  refine ⟨He.eqO_ok h1, He.eqO_ok h2, of_decide_eq_true h3, ?_⟩
  unfold getA
  split at h4
  · rename_i g r e
    exact ⟨r, by rw [e]⟩
  · cases h4
def dunB (K : PySem.W.Frag) (C : Addr) (m : Str) : Bool := He.eqO (PySem.W.findIn K (.ref C) m) (some (some (.ref (He.ma K C m)))) && PySem.W.isFn K (.ref (He.ma K C m))
theorem dunB_ok {K : PySem.W.Frag} {C : Addr} {m : Str} (h : dunB K C m = true) : PySem.W.findIn K (.ref C) m = some (some (.ref (He.ma K C m))) ∧ PySem.W.isFn K (.ref (He.ma K C m)) = true :=
  ⟨He.eqO_ok (He.ba h).1, (He.ba h).2⟩
def oexB (K : PySem.W.Frag) (C : Addr) : Bool := match K.lookup C with
  | some ⟨.type t, _, .cls cd, sl⟩ => decide (t = "type") && ((match cd.mro with
      | .ref c :: bm => decide (c = C) && PySem.HandSPX.refsVE bm
      | _ => false) && (cd.hasDict && (!cd.hasDel && (match sl.toList with
      | [_, _, _, _, some (.builtin i), _] => decide (i = "ValueError.__new__")
      | _ => false))))
  | _ => false
theorem oexB_ok {K : PySem.W.Frag} {C : Addr} (h : oexB K C = true) : ∃ nm q N bs bm sn sub ab col dd k0 k1 k2 k3 k5, K.lookup C = some (excClassObj nm q C N bs bm true sn sub ab col dd k0 k1 k2 k3 k5 "ValueError.__new__") ∧ PySem.HandSPX.refsVE bm = true := by
  unfold oexB at h
  split at h
  · rename_i t dd cd sl e
    obtain ⟨h1, h⟩ := He.ba h
    obtain ⟨h2, h⟩ := He.ba h
    obtain ⟨h3, h⟩ := He.ba h
    obtain ⟨h4, h5⟩ := He.ba h
    obtain ⟨nm, bs, mro, ns, qn, hd, sn, sb, ab, col, del⟩ := cd
    obtain ⟨sl⟩ := sl
    have h1' := of_decide_eq_true h1
    have h3' : hd = true := h3
    have h4' : del = false := by simpa using h4
    subst h1' h3' h4'
    cases mro with
    | nil => cases h2
    | cons c bm =>
      cases c with
      | ref c =>
        obtain ⟨h6, h7⟩ := He.ba h2
        have h6' := of_decide_eq_true h6
        subst h6'
        match sl, e, h5 with
        | [k0, k1, k2, k3, some (.builtin i), k5], e, h5 =>
          have h5' : i = "ValueError.__new__" := of_decide_eq_true h5
          subst h5'
          exact ⟨nm, qn, ns, bs, bm, sn, sb, ab, col, dd, k0, k1, k2, k3, k5, e, h7⟩
      | _ => cases h2
  · cases h
/-! ### BadCall.__init__ -/
def badAt (K : PySem.W.Frag) : Addr := He.ma K (He.ga K "BadCall") "__init__"
abbrev BadV : Type := Option (Str × Str × Arguments × FuncBody × Scope × Addr × List Str × Value × Addr)
def badV (K : PySem.W.Frag) : BadV := match K.lookup (badAt K) with
  | some ⟨_, _, .func fd, _⟩ => some (fd.name, fd.qualname, fd.params, fd.body, fd.scope, fd.globals, fd.closure.map (·.1), fd.defaults, fd.builtins)
  | _ => none
def badVal : BadV := some (("__init__" : Str), ("BadCall.__init__" : Str), defArgs s_BadCall___init, .stmts (defBody s_BadCall___init), defScope s_BadCall___init, mainGlobals, [("__class__" : Str)], .none, builtinsNs)
def badCell (K : PySem.W.Frag) : Addr := match K.lookup (badAt K) with
  | some ⟨_, _, .func fd, _⟩ => (match fd.closure with
    | [(_, c)] => c
    | _ => 0)
  | _ => 0
def badCode (K : PySem.W.Frag) : Addr := match K.lookup (badAt K) with
  | some ⟨_, _, .func fd, _⟩ => (match fd.code with
    | .ref c => c
    | _ => 0)
  | _ => 0
def badB (K : PySem.W.Frag) : Bool := match K.lookup (badAt K) with
  | some ⟨_, _, .func fd, _⟩ => (match fd.code with
    | .ref _ => true
    | _ => false)
  | _ => false
theorem bad_ok {K : PySem.W.Frag} (e : badV K = badVal) (h : badB K = true) : ∃ (oc : Value) (od : Option Addr) (kV doc pm : Value) (an : Option Addr) (ct : Value) (osl : Array (Option Value)),
    K.lookup (badAt K) = some ⟨oc, od, .func (PySem.W.ksFn "__init__" "BadCall.__init__" (defArgs s_BadCall___init) (defBody s_BadCall___init) (defScope s_BadCall___init) .none kV doc pm an (.ref (badCode K)) ct (badCell K)), osl⟩ := by
  unfold badV at e
  unfold badB at h
  unfold badCode badCell
  cases q : K.lookup (badAt K) with
  | none =>
    rw [q] at h
    cases h
  | some o =>
    obtain ⟨oc, od, dt, osl⟩ := o
    rw [q] at h e
    cases dt with
    | func fd =>
      obtain ⟨n1, n2, n3, n4, n5, n6, n7, n8, n9, n10, n11, n12, n13, n14, n15⟩ := fd
      have e2 : (some (n1, n2, n3, n4, n5, n6, n7.map (·.1), n8, n15) : BadV) = badVal := e
      unfold badVal at e2
      have e3 := Option.some.inj e2
      obtain ⟨h1, e3⟩ := Prod.mk.inj e3
      obtain ⟨h2, e3⟩ := Prod.mk.inj e3
      obtain ⟨h3, e3⟩ := Prod.mk.inj e3
      obtain ⟨h4, e3⟩ := Prod.mk.inj e3
      obtain ⟨h5, e3⟩ := Prod.mk.inj e3
      obtain ⟨h6, e3⟩ := Prod.mk.inj e3
      obtain ⟨h7, e3⟩ := Prod.mk.inj e3
      obtain ⟨h8, h9⟩ := Prod.mk.inj e3
      subst h1 h2 h3 h4 h5 h6 h8 h9
      cases n7 with
      | nil => cases h7
      | cons y r =>
        obtain ⟨y1, y2⟩ := y
        cases r with
        | nil =>
          have h7' : y1 = ("__class__" : Str) := (List.cons.inj h7).1
          subst h7'
          cases n13 with
          | ref cd => exact ⟨oc, od, n9, n10, n11, n12, n14, osl, rfl⟩
          | _ => cases h
        | cons _ _ => cases h7
    | _ => cases h
def fileB (K : PySem.W.Frag) : Bool := match K.lookup (badCode K) with
  | some ⟨_, _, .fields vs, _⟩ => (match (vs[2]? : Option Value) with
    | some (.str file _) => (PySem.Challenge.pw_booklimits_k93_whole_trials_and_copies.main.file : Str) == file
    | _ => false)
  | _ => false
theorem fileB_ok {K : PySem.W.Frag} (h : fileB K = true) : ∃ (ccl : Value) (cdd : Option Addr) (vs : Array Value) (ccs : Array (Option Value)) (file : Str) (tf : Tok), K.lookup (badCode K) = some ⟨ccl, cdd, .fields vs, ccs⟩ ∧ vs[2]? = some (.str file tf) ∧ ((PySem.Challenge.pw_booklimits_k93_whole_trials_and_copies.main.file : Str) == file) = true := by
  unfold fileB at h
  split at h
  · rename_i e
    split at h
    · rename_i e2
      exact ⟨_, _, _, _, _, _, e, e2, h⟩
    · cases h
  · cases h
def cellB (K : PySem.W.Frag) (C : Addr) : Bool := match K.lookup (badCell K) with
  | some ⟨_, _, .cell (some (.ref c)), _⟩ => decide (c = C)
  | _ => false
theorem cellB_ok {K : PySem.W.Frag} {C : Addr} (h : cellB K C = true) : ∃ (cl : Value) (cld : Option Addr) (csl : Array (Option Value)), K.lookup (badCell K) = some ⟨cl, cld, .cell (some (.ref C)), csl⟩ := by
  unfold cellB at h
  split at h
  · rename_i e
    have h' := of_decide_eq_true h
    subst h'
    exact ⟨_, _, _, e⟩
  · cases h
/-! ### the lists -/
/-- the defs that make lambdas -/
def tf : List He.Defn := [("_law_turn", none), ("_law_inner", none), ("_law_tried", none), ("law", none)]

def fnW0 : List He5.DefA := [
  ⟨fun Kh => He.ga Kh "is_whole", "is_whole", "is_whole", defArgs s_is_whole, defBody s_is_whole, defScope s_is_whole, [], []⟩,
  ⟨fun Kh => He.ga Kh "need_hall", "need_hall", "need_hall", defArgs s_need_hall, defBody s_need_hall, defScope s_need_hall, [], []⟩,
  ⟨fun Kh => He.ga Kh "are_limits", "are_limits", "are_limits", defArgs s_are_limits, defBody s_are_limits, defScope s_are_limits, [], []⟩,
  ⟨fun Kh => He.ga Kh "is_plain", "is_plain", "is_plain", defArgs s_is_plain, defBody s_is_plain, defScope s_is_plain, [], []⟩,
  ⟨fun Kh => He.ga Kh "is_word", "is_word", "is_word", defArgs s_is_word, defBody s_is_word, defScope s_is_word, [], []⟩,
  ⟨fun Kh => He.ga Kh "parts_of", "parts_of", "parts_of", defArgs s_parts_of, defBody s_parts_of, defScope s_parts_of, [], []⟩,
  ⟨fun Kh => He.ga Kh "need_rule", "need_rule", "need_rule", defArgs s_need_rule, defBody s_need_rule, defScope s_need_rule, [], []⟩,
  ⟨fun Kh => He.ga Kh "lets_plain", "lets_plain", "lets_plain", defArgs s_lets_plain, defBody s_lets_plain, defScope s_lets_plain, [], []⟩,
  ⟨fun Kh => He.ga Kh "lets_of", "lets_of", "lets_of", defArgs s_lets_of, defBody s_lets_of, defScope s_lets_of, [], []⟩,
  ⟨fun Kh => He.ga Kh "none_of", "none_of", "none_of", defArgs s_none_of, defBody s_none_of, defScope s_none_of, [], []⟩,
  ⟨fun Kh => He.ga Kh "with_more", "with_more", "with_more", defArgs s_with_more, defBody s_with_more, defScope s_with_more, [], []⟩,
  ⟨fun Kh => He.ga Kh "cheapest_sold", "cheapest_sold", "cheapest_sold", defArgs s_cheapest_sold, defBody s_cheapest_sold, defScope s_cheapest_sold, [], []⟩,
  ⟨fun Kh => He.ga Kh "step_of", "step_of", "step_of", defArgs s_step_of, defBody s_step_of, defScope s_step_of, [], []⟩,
  ⟨fun Kh => He.ga Kh "seen_with", "seen_with", "seen_with", defArgs s_seen_with, defBody s_seen_with, defScope s_seen_with, [], []⟩,
  ⟨fun Kh => He.ga Kh "need_calls", "need_calls", "need_calls", defArgs s_need_calls, defBody s_need_calls, defScope s_need_calls, [], []⟩,
  ⟨fun Kh => He.ga Kh "seen_of", "seen_of", "seen_of", defArgs s_seen_of, defBody s_seen_of, defScope s_seen_of, [], []⟩,
  ⟨fun Kh => He.ga Kh "seen", "seen", "seen", defArgs s_seen, defBody s_seen, defScope s_seen, [], []⟩,
  ⟨fun Kh => He.ga Kh "worth_of", "worth_of", "worth_of", defArgs s_worth_of, defBody s_worth_of, defScope s_worth_of, [], []⟩,
  ⟨fun Kh => He.ga Kh "hindsight", "hindsight", "hindsight", defArgs s_hindsight, defBody s_hindsight, defScope s_hindsight, [], []⟩,
  ⟨fun Kh => He.ga Kh "under", "under", "under", defArgs s_under, defBody s_under, defScope s_under, [], []⟩]
def fnW1 : List He5.DefA := [
  ⟨fun Kh => He.ga Kh "_law_mixed", "_law_mixed", "_law_mixed", defArgs s_l_mixed, defBody s_l_mixed, defScope s_l_mixed, [], []⟩,
  ⟨fun Kh => He.ga Kh "_law_folded", "_law_folded", "_law_folded", defArgs s_l_folded, defBody s_l_folded, defScope s_l_folded, [], []⟩,
  ⟨fun Kh => He.ga Kh "_law_draw", "_law_draw", "_law_draw", defArgs s_l_draw, defBody s_l_draw, defScope s_l_draw, [], []⟩,
  ⟨fun Kh => He.ga Kh "_law_begun", "_law_begun", "_law_begun", defArgs s_l_begun, defBody s_l_begun, defScope s_l_begun, [], []⟩,
  ⟨fun Kh => He.ga Kh "_law_like", "_law_like", "_law_like", defArgs s_l_like, defBody s_l_like, defScope s_l_like, [], []⟩,
  ⟨fun Kh => He.ga Kh "_law_of", "_law_of", "_law_of", defArgs s_l_of, defBody s_l_of, defScope s_l_of, [], []⟩,
  ⟨fun Kh => He.ga Kh "_law_fares", "_law_fares", "_law_fares", defArgs s_l_fares, defBody s_l_fares, defScope s_l_fares, [], []⟩,
  ⟨fun Kh => He.ga Kh "_law_hall", "_law_hall", "_law_hall", defArgs s_l_hall, defBody s_l_hall, defScope s_l_hall, [], []⟩,
  ⟨fun Kh => He.ga Kh "_law_plain", "_law_plain", "_law_plain", defArgs s_l_plain, defBody s_l_plain, defScope s_l_plain, [], []⟩,
  ⟨fun Kh => He.ga Kh "_law_rule", "_law_rule", "_law_rule", defArgs s_l_rule, defBody s_l_rule, defScope s_l_rule, [], []⟩,
  ⟨fun Kh => He.ga Kh "_law_lets", "_law_lets", "_law_lets", defArgs s_l_lets, defBody s_l_lets, defScope s_l_lets, [], []⟩,
  ⟨fun Kh => He.ga Kh "_law_more", "_law_more", "_law_more", defArgs s_l_more, defBody s_l_more, defScope s_l_more, [], []⟩,
  ⟨fun Kh => He.ga Kh "_law_deal", "_law_deal", "_law_deal", defArgs s_l_deal, defBody s_l_deal, defScope s_l_deal, [], []⟩,
  ⟨fun Kh => He.ga Kh "_law_worth", "_law_worth", "_law_worth", defArgs s_l_worth, defBody s_l_worth, defScope s_l_worth, [], []⟩,
  ⟨fun Kh => He.ga Kh "_law_best", "_law_best", "_law_best", defArgs s_l_best, defBody s_l_best, defScope s_l_best, [], []⟩,
  ⟨fun Kh => He.ga Kh "_law_said", "_law_said", "_law_said", defArgs s_l_said, defBody s_l_said, defScope s_l_said, [], []⟩,
  ⟨fun Kh => He.ga Kh "_law_begin_book", "_law_begin_book", "_law_begin_book", defArgs s_l_begin_book, defBody s_l_begin_book, defScope s_l_begin_book, [], []⟩,
  ⟨fun Kh => He.ga Kh "_law_calls_in", "_law_calls_in", "_law_calls_in", defArgs s_l_calls_in, defBody s_l_calls_in, defScope s_l_calls_in, [], []⟩,
  ⟨fun Kh => He.ga Kh "_law_stands", "_law_stands", "_law_stands", defArgs s_l_stands, defBody s_l_stands, defScope s_l_stands, [], []⟩,
  ⟨fun Kh => He.ga Kh "_law_keep", "_law_keep", "_law_keep", defArgs s_l_keep, defBody s_l_keep, defScope s_l_keep, [], []⟩]
def fnW2 : List He5.DefA := [
  ⟨fun Kh => He.ga Kh "_law_turn", "_law_turn", "_law_turn", defArgs s_l_turn, defBody s_l_turn, defScope s_l_turn, [], []⟩,
  ⟨fun Kh => He.ga Kh "_law_led", "_law_led", "_law_led", defArgs s_l_led, defBody s_l_led, defScope s_l_led, [], []⟩,
  ⟨fun Kh => He.ga Kh "_law_twin_of", "_law_twin_of", "_law_twin_of", defArgs s_l_twin_of, defBody s_l_twin_of, defScope s_l_twin_of, [], []⟩,
  ⟨fun Kh => He.ga Kh "_law_inner", "_law_inner", "_law_inner", defArgs s_l_inner, defBody s_l_inner, defScope s_l_inner, [], []⟩,
  ⟨fun Kh => He.ga Kh "_law_tried", "_law_tried", "_law_tried", defArgs s_l_tried, defBody s_l_tried, defScope s_l_tried, [], []⟩,
  ⟨fun Kh => He.ga Kh "_law_back_right", "_law_back_right", "_law_back_right", defArgs s_l_back_right, defBody s_l_back_right, defScope s_l_back_right, [], []⟩,
  ⟨fun Kh => He.ga Kh "law", "law", "law", defArgs s_law, defBody s_law, defScope s_law, [], []⟩,
  ⟨fun Kh => He.ma Kh (He.ga Kh "Trial") "__init__", "__init__", "Trial.__init__", defArgs s_Trial___init, defBody s_Trial___init, defScope s_Trial___init, [], []⟩,
  ⟨fun Kh => He.ma Kh (He.ga Kh "Trial") "__enter__", "__enter__", "Trial.__enter__", defArgs s_Trial___enter, defBody s_Trial___enter, defScope s_Trial___enter, [], []⟩,
  ⟨fun Kh => He.ma Kh (He.ga Kh "Trial") "__exit__", "__exit__", "Trial.__exit__", defArgs s_Trial___exit, defBody s_Trial___exit, defScope s_Trial___exit, [], []⟩,
  ⟨fun Kh => He.ma Kh (He.ga Kh "Book") "__init__", "__init__", "Book.__init__", defArgs s_Book___init, defBody s_Book___init, defScope s_Book___init, [], []⟩,
  ⟨fun Kh => getA Kh (He.ga Kh "Book") "hall", "hall", "Book.hall", defArgs s_Book_hall, defBody s_Book_hall, defScope s_Book_hall, [], []⟩,
  ⟨fun Kh => getA Kh (He.ga Kh "Book") "rule", "rule", "Book.rule", defArgs s_Book_rule, defBody s_Book_rule, defScope s_Book_rule, [], []⟩,
  ⟨fun Kh => getA Kh (He.ga Kh "Book") "sold", "sold", "Book.sold", defArgs s_Book_sold, defBody s_Book_sold, defScope s_Book_sold, [], []⟩,
  ⟨fun Kh => getA Kh (He.ga Kh "Book") "paid", "paid", "Book.paid", defArgs s_Book_paid, defBody s_Book_paid, defScope s_Book_paid, [], []⟩,
  ⟨fun Kh => He.ma Kh (He.ga Kh "Book") "__len__", "__len__", "Book.__len__", defArgs s_Book___len, defBody s_Book___len, defScope s_Book___len, [], []⟩,
  ⟨fun Kh => He.ma Kh (He.ga Kh "Book") "calls", "calls", "Book.calls", defArgs s_Book_calls, defBody s_Book_calls, defScope s_Book_calls, [], []⟩,
  ⟨fun Kh => He.ma Kh (He.ga Kh "Book") "got", "got", "Book.got", defArgs s_Book_got, defBody s_Book_got, defScope s_Book_got, [], []⟩,
  ⟨fun Kh => He.ma Kh (He.ga Kh "Book") "regret", "regret", "Book.regret", defArgs s_Book_regret, defBody s_Book_regret, defScope s_Book_regret, [], []⟩,
  ⟨fun Kh => He.ma Kh (He.ga Kh "Book") "need_room", "need_room", "Book.need_room", defArgs s_Book_need_room, defBody s_Book_need_room, defScope s_Book_need_room, [], []⟩]
def fnW3 : List He5.DefA := [
  ⟨fun Kh => He.ma Kh (He.ga Kh "Book") "need_fare", "need_fare", "Book.need_fare", defArgs s_Book_need_fare, defBody s_Book_need_fare, defScope s_Book_need_fare, [], []⟩,
  ⟨fun Kh => He.ma Kh (He.ga Kh "Book") "keep", "keep", "Book.keep", defArgs s_Book_keep, defBody s_Book_keep, defScope s_Book_keep, [], []⟩,
  ⟨fun Kh => He.ma Kh (He.ga Kh "Book") "call", "call", "Book.call", defArgs s_Book_call, defBody s_Book_call, defScope s_Book_call, [], []⟩,
  ⟨fun Kh => He.ma Kh (He.ga Kh "Book") "give", "give", "Book.give", defArgs s_Book_give, defBody s_Book_give, defScope s_Book_give, [], []⟩,
  ⟨fun Kh => He.ma Kh (He.ga Kh "Book") "change", "change", "Book.change", defArgs s_Book_change, defBody s_Book_change, defScope s_Book_change, [], []⟩,
  ⟨fun Kh => He.ma Kh (He.ga Kh "Book") "undo", "undo", "Book.undo", defArgs s_Book_undo, defBody s_Book_undo, defScope s_Book_undo, [], []⟩,
  ⟨fun Kh => He.ma Kh (He.ga Kh "Book") "redo", "redo", "Book.redo", defArgs s_Book_redo, defBody s_Book_redo, defScope s_Book_redo, [], []⟩,
  ⟨fun Kh => He.ma Kh (He.ga Kh "Book") "copy", "copy", "Book.copy", defArgs s_Book_copy, defBody s_Book_copy, defScope s_Book_copy, [], []⟩,
  ⟨fun Kh => He.ma Kh (He.ga Kh "Book") "trial", "trial", "Book.trial", defArgs s_Book_trial, defBody s_Book_trial, defScope s_Book_trial, [], []⟩,
  ⟨fun Kh => He.ma Kh (He.ga Kh "Book") "__eq__", "__eq__", "Book.__eq__", defArgs s_Book___eq, defBody s_Book___eq, defScope s_Book___eq, [], []⟩]
def fnA : List He5.DefA := fnW0 ++ (fnW1 ++ (fnW2 ++ (fnW3)))
def faW0 : List He.Fa := [
  .glo "is_whole",
  .glo "need_hall",
  .glo "are_limits",
  .glo "is_plain",
  .glo "is_word",
  .glo "parts_of",
  .glo "need_rule",
  .glo "lets_plain",
  .glo "lets_of",
  .glo "none_of",
  .glo "with_more",
  .glo "cheapest_sold",
  .glo "step_of",
  .glo "seen_with",
  .glo "need_calls",
  .glo "seen_of",
  .glo "seen",
  .glo "worth_of",
  .glo "hindsight",
  .glo "under"]
def faW1 : List He.Fa := [
  .glo "_law_mixed",
  .glo "_law_folded",
  .glo "_law_draw",
  .glo "_law_begun",
  .glo "_law_like",
  .glo "_law_of",
  .glo "_law_fares",
  .glo "_law_hall",
  .glo "_law_plain",
  .glo "_law_rule",
  .glo "_law_lets",
  .glo "_law_more",
  .glo "_law_deal",
  .glo "_law_worth",
  .glo "_law_best",
  .glo "_law_said",
  .glo "_law_begin_book",
  .glo "_law_calls_in",
  .glo "_law_stands",
  .glo "_law_keep"]
def faW2 : List He.Fa := [
  .glo "_law_turn",
  .glo "_law_led",
  .glo "_law_twin_of",
  .glo "_law_inner",
  .glo "_law_tried",
  .glo "_law_back_right",
  .glo "law",
  .glo "Book",
  .glo "Trial",
  .glo "BadCall",
  .glo "BadHall",
  .glo "BadRule",
  .free "isinstance",
  .free "len",
  .free "int",
  .free "bool",
  .free "tuple",
  .free "str",
  .free "list",
  .free "all"]
def faW3 : List He.Fa := [
  .free "zip",
  .free "range",
  .free "sum",
  .free "enumerate",
  .free "repr",
  .free "sorted",
  .free "min",
  .free "super",
  .int "MOST_SEATS" 6,
  .int "MOST_FARES" 4,
  .int "MOST_FARE" 99,
  .int "MOST_FEE" 99,
  .int "MOST_WORDS" 7,
  .int "MOST_DEEP" 3,
  .int "MOST_CALLS" 400,
  .int "MOST_DEEDS" 400,
  .str "APART" "apart",
  .str "NESTED" "nested",
  .str "KEPT" "kept",
  .str "ALL" "all"]
def faW4 : List He.Fa := [
  .str "ANY" "any",
  .str "OUST" "oust",
  .str "TAKEN" "taken",
  .str "OUSTED" "ousted",
  .str "REFUSED" "refused",
  .str "CALL" "call",
  .str "GIVE" "give",
  .str "CHANGE" "change",
  .cls "Book",
  .cls "Trial",
  .noat "Book" "own_hall",
  .noat "Book" "past",
  .noat "Book" "later",
  .noat "Trial" "held_book",
  .noat "Trial" "kept_past",
  .noat "Trial" "kept_later",
  .meth "Book" "calls",
  .meth "Book" "got",
  .meth "Book" "regret",
  .meth "Book" "need_room"]
def faW5 : List He.Fa := [
  .meth "Book" "need_fare",
  .meth "Book" "keep",
  .meth "Book" "call",
  .meth "Book" "give",
  .meth "Book" "change",
  .meth "Book" "undo",
  .meth "Book" "redo",
  .meth "Book" "copy",
  .meth "Book" "trial",
  .mkr "Book",
  .mkr "Trial",
  .exm "BadCall" "BadHall" false,
  .exm "BadCall" "BadRule" false,
  .exm "BadCall" "BadCall" true]
def faA : List He.Fa := faW0 ++ (faW1 ++ (faW2 ++ (faW3 ++ (faW4 ++ (faW5)))))
def exL (Kh : PySem.W.Frag) : List Bool := [
  propB Kh (He.ga Kh "Book") "hall",
  propB Kh (He.ga Kh "Book") "rule",
  propB Kh (He.ga Kh "Book") "sold",
  propB Kh (He.ga Kh "Book") "paid",
  dunB Kh (He.ga Kh "Book") "__len__",
  dunB Kh (He.ga Kh "Book") "__eq__",
  dunB Kh (He.ga Kh "Trial") "__enter__",
  dunB Kh (He.ga Kh "Trial") "__exit__",
  He.eqO (PySem.W.findIn Kh (.ref (He.ga Kh "Book")) "__ne__") (some (some (.builtin "object.__ne__"))),
  decide (PySem.W.mroIn Kh (He.ga Kh "Book") (.type "object") = some true),
  He.eqO (PySem.W.findIn Kh (.ref (He.ga Kh "Book")) "__class__") (some (some (.builtin "object.__class__"))),
  He.eqO (PySem.W.specialIn Kh (.builtin "object.__class__") "__get__") (some (some (.builtin "getset_descriptor.__get__"))),
  decide (PySem.W.takesIn Kh (.builtin "object.__class__") = some true),
  decide (PySem.W.kitOne Kh (.ref (He.ga Kh "Book")) (.ref (He.ga Kh "Book")) = some true),
  decide (PySem.W.kitOne Kh (.type "NoneType") (.ref (He.ga Kh "Book")) = some false),
  decide (PySem.W.kitOne Kh (.type "int") (.ref (He.ga Kh "Book")) = some false),
  decide (PySem.W.kitOne Kh (.type "tuple") (.ref (He.ga Kh "Book")) = some false),
  PySem.W.notFirst Kh (He.ga Kh "Book") (.type "NoneType"),
  PySem.W.notFirst Kh (He.ga Kh "Book") (.type "int"),
  PySem.W.notFirst Kh (He.ga Kh "Book") (.type "tuple"),
  oexB Kh (He.ga Kh "BadCall"),
  He.eqO (PySem.W.findIn Kh (.ref (He.ga Kh "BadCall")) "__setattr__") (some (some (.builtin "object.__setattr__"))),
  decide (PySem.W.subIn Kh (.ref (He.ga Kh "BadCall")) (.type "BaseException") = some true),
  decide (PySem.W.typeIn Kh (.ref (He.ga Kh "BadCall")) = some (.type "type")),
  PySem.W.keepIn Kh (.ref (He.ga Kh "BadCall")),
  xfB Kh (He.ga Kh "BadCall"),
  He.eqO (PySem.W.findIn Kh (.ref (He.ga Kh "BadCall")) "__init__") (some (some (.ref (badAt Kh)))),
  decide (PySem.W.typeIn Kh (.ref (badAt Kh)) = some (.type "function")),
  badB Kh,
  PySem.W.codeIn Kh (.ref (badCode Kh)) "BadCall.__init__",
  fileB Kh,
  cellB Kh (He.ga Kh "BadCall"),
  decide (PySem.W.mroIn Kh (He.ga Kh "BadCall") (.ref (He.ga Kh "BadCall")) = some true),
  He.eqO (PySem.W.nsIn Kh cStatics "thirdparty.any") (some none),
  He.eqO (PySem.W.ks_superIn Kh (He.ga Kh "BadCall") (He.ga Kh "BadCall") "__init__") (some (some (.builtin "ValueError.__init__"))),
  decide (PySem.W.subIn Kh (.ref (He.ga Kh "BadCall")) (.type "ValueError") = some true),
  He.eqO (PySem.W.findIn Kh (.ref (He.ga Kh "BadCall")) "place") (some none),
  tf.all fun p => tf.all fun q => decide (p.1 = q.1) || !decide ((He.cT Kh p).2 = (He.cT Kh q).2)]
def exW (K : PySem.W.Frag) : Bool := (exL K).all id
/-! ### the written part: what the names reach -/
def refsW (o : Obj) : List Addr := match o.data with
  | .dict es _ => es.toList.flatMap fun e => He.refV e.val
  | .func fd => He.refV fd.code ++ fd.closure.map (·.2)
  | .cls cd => [cd.ns]
  | .fields vs => (match o.cls with
    | .type t => if t = "property" then vs.toList.flatMap He.refV else []
    | _ => [])
  | .cell (some v) => He.refV v
  | _ => []
def stepW (g : Addr → Option Obj) (as : List Addr) : List Addr := (as.flatMap fun a => match g a with
  | some o => refsW o
  | none => []).eraseDups
def asW (g : Addr → Option Obj) : Nat → List Addr → List Addr
  | 0, as => as
  | n + 1, as => as ++ asW g n (stepW g as)
abbrev frW (g : Addr → Option Obj) : PySem.W.Frag := He.frT g (asW g 5 [mainGlobals, cStatics])
abbrev AlW : Type := He.AlD × BadV × Bool
def obsW (g : Addr → Option Obj) : AlW := (He5.obsA faA fnA (frW g), badV (frW g), exW (frW g) && He.tabsB g tf (frW g))
def valW : AlW := (He5.valA fnA, badVal, true)
structure SaysW (w : World) (h : Heap) (K : PySem.W.Frag) : Prop where
  a : He5.SaysA faA fnA K
  bad : badV K = badVal
  more : exW K = true
  hd : ∀ p ∈ tf, PySem.W.codeHdIn K (He.cT K p).1 (He.cT K p).2 = true
  out : ∀ p ∈ tf, K.lookup (He.cT K p).2 = none
  empty : ∀ p ∈ tf, h.get? (He.cT K p).2 = some { cls := .none, data := .fields #[] }
theorem saysW_of {w : World} {h : Heap} (e : obsW h.get? = valW) : SaysW w h (frW h.get?) := by
  have e1 : He5.obsA faA fnA (frW h.get?) = He5.valA fnA := congrArg (fun z : AlW => z.1) e
  have e0 : badV (frW h.get?) = badVal := congrArg (fun z : AlW => z.2.1) e
  have e2 : (exW (frW h.get?) && He.tabsB h.get? tf (frW h.get?)) = true := congrArg (fun z : AlW => z.2.2) e
  obtain ⟨h1, h2⟩ := He.ba e2
  have key : ∀ p ∈ tf, PySem.W.codeHdIn (frW h.get?) (He.cT (frW h.get?) p).1 (He.cT (frW h.get?) p).2 = true ∧ ∃ o, h.get? (He.cT (frW h.get?) p).2 = some o ∧ He.emptyTab o = true := fun p hp => by
    obtain ⟨h3, h4⟩ := He.ba (List.all_eq_true.mp h2 p hp)
    refine ⟨h3, ?_⟩
    cases q : h.get? (He.cT (frW h.get?) p).2 with
    | none =>
      rw [q] at h4
      cases h4
    | some o =>
      rw [q] at h4
      exact ⟨o, rfl, h4⟩
  refine ⟨e1, e0, h1, fun p hp => (key p hp).1, fun p hp => ?_, fun p hp => ?_⟩
  · obtain ⟨_, o, q, z⟩ := key p hp
    exact He.frT_none q z
  · obtain ⟨_, o, q, z⟩ := key p hp
    rw [q, He.emptyTab_eq z]
def hookW : PySem.W.Hook where
  α := AlW
  obs := fun s => obsW s.heap.get?
  val := fun _ => valW
  says := fun w h => ∃ K : PySem.W.Frag, K.In h ∧ SaysW w h K
  of := fun _ _ e => ⟨_, He.frT_in, saysW_of e⟩
  keeps := fun _ _ _ ⟨K, hK, c⟩ k => ⟨K, PySem.W.Frag.In.keeps hK k, ⟨c.a, c.bad, c.more, c.hd, c.out, fun p hp => k _ _ (c.empty p hp)⟩⟩
theorem obsW_eq {g : Addr → Option Obj} {s : Shared} (h : ∀ a, g a = s.heap.get? a) : obsW g = hookW.obs s := by
  have e : g = s.heap.get? := funext h
  rw [e] <;> rfl
section
variable {w : World} {K : PySem.W.Frag} {h : Heap}
theorem SaysW.fa (c : SaysW w h K) (i : Nat) {f : He.Fa} (e : faA[i]? = some f := by rfl) : f.ok K = true := c.a.fact i e
theorem SaysW.fn (c : SaysW w h K) (i : Nat) {d : He5.DefA} (e : fnA[i]? = some d := by rfl) : ∃ fd, L2.FunD K d.name d.qual d.params d.body d.scope (d.dvs K) (d.kws K) (d.at_ K) fd := c.a.def_ i e
theorem SaysW.ex (c : SaysW w h K) (i : Nat) {b : Bool} (e : (exL K)[i]? = some b := by rfl) : b = true := List.all_eq_true.mp c.more b (List.mem_of_getElem? e)
end

end BL
end

section
set_option Elab.async false
set_option linter.all false
set_option maxRecDepth 100000
set_option maxHeartbeats 4000000
/-! BNk: the facts of the written part, joined; the law. Printed by fin.py. -/
namespace BL
open PySem PySem.Spec PyProof.Rows L2
/-- the defs' code objects, their tables; the tables by the names of what they make -/
abbrev csW (K : PySem.W.Frag) : List (Addr × Addr) := tf.map (He.cT K)
abbrev tabsW (K : PySem.W.Frag) : List (Addr × Str) := tf.map fun p => ((He.cT K p).2, (p.1 ++ ".<locals>.") ++ "<lambda>")
theorem lamF_of {w : World} {K : PySem.W.Frag} {h base : Heap} {mg : Str → Option Value} {p : He.Defn} {x : Str} {st : Stmt} {ps : List Str} (c : SaysW w h K) (i : Nat) (ei : (exL K)[i]? = some (tf.all fun p => tf.all fun q => decide (p.1 = q.1) || !decide ((He.cT K p).2 = (He.cT K q).2)))
    (tb : ∀ q ∈ csW K, LamX.TabB base mg q.1 q.2) (hp : p ∈ tf) (F : FnF K mg x st ps) (hx : p = (x, none)) (gm : mg x = some (.ref (He.ga K x))) : LamF K mg base (tabsW K) x st ps := by
  subst hx
  obtain ⟨f, fd, F, hb, hm⟩ := F
  have e := hm.symm.trans gm
  cases e
  obtain ⟨oc, od, kV, doc, pm, an, cdv, ct, osl, e1, lk, hcd⟩ := F.ex
  obtain ⟨cA, rfl⟩ := He.codeIn_ref hcd
  have ec : He.codeOf K (x, none) = cA := He.codeOf_eq (fd := fd) lk (by rw [e1])
  refine ⟨_, cA, (He.cT K (x, none)).2, fd, F, hb, hm, by rw [e1], ?_, ?_, ?_⟩
  · have t := tb (He.cT K (x, none)) (List.mem_map_of_mem hp)
    have e2 : (He.cT K (x, none)).1 = cA := ec
    rw [e2] at t
    exact t
  · exact List.mem_map_of_mem (f := fun p : He.Defn => ((He.cT K p).2, (p.1 ++ ".<locals>.") ++ "<lambda>")) hp
  · intro q hq e2
    obtain ⟨p', hp', rfl⟩ := List.mem_map.mp hq
    have a1 := List.all_eq_true.mp (List.all_eq_true.mp (c.ex i ei) p' hp') (x, none) hp
    have e3 : (He.cT K p').2 = (He.cT K (x, none)).2 := e2
    have e4 : p'.1 = x := by
      rcases Bool.or_eq_true_iff.mp a1 with z | z
      · exact of_decide_eq_true z
      · rw [decide_eq_true e3] at z
        cases z
    show (p'.1 ++ ".<locals>.") ++ "<lambda>" = _
    rw [e4]

section
variable {w : World} {K : PySem.W.Frag} {h base : Heap} {mg : Str → Option Value}
abbrev PW : Program := PySem.Challenge.pw_booklimits_k93_whole_trials_and_copies
theorem k_tx (X : K.In h) (G : h.Ns mainGlobals mg) (c : SaysW w h K) : Tx mg := ⟨
  He.free_ok X G (x := "isinstance") (c.fa 52),
  He.free_ok X G (x := "len") (c.fa 53),
  He.free_ok X G (x := "int") (c.fa 54),
  He.free_ok X G (x := "bool") (c.fa 55),
  He.free_ok X G (x := "tuple") (c.fa 56),
  He.free_ok X G (x := "str") (c.fa 57),
  He.free_ok X G (x := "list") (c.fa 58),
  He.free_ok X G (x := "all") (c.fa 59),
  He.free_ok X G (x := "zip") (c.fa 60),
  He.free_ok X G (x := "range") (c.fa 61),
  He.free_ok X G (x := "sum") (c.fa 62),
  He.free_ok X G (x := "enumerate") (c.fa 63),
  He.free_ok X G (x := "repr") (c.fa 64),
  He.free_ok X G (x := "sorted") (c.fa 65),
  He.free_ok X G (x := "min") (c.fa 66),
  He.int_ok X G (x := "MOST_SEATS") (i := 6) (c.fa 68),
  He.int_ok X G (x := "MOST_FARES") (i := 4) (c.fa 69),
  He.int_ok X G (x := "MOST_FARE") (i := 99) (c.fa 70),
  He.int_ok X G (x := "MOST_FEE") (i := 99) (c.fa 71),
  He.int_ok X G (x := "MOST_WORDS") (i := 7) (c.fa 72),
  He.int_ok X G (x := "MOST_DEEP") (i := 3) (c.fa 73),
  He.str_ok X G (x := "APART") (z := "apart") (c.fa 76),
  He.str_ok X G (x := "NESTED") (z := "nested") (c.fa 77),
  He.str_ok X G (x := "KEPT") (z := "kept") (c.fa 78),
  He.str_ok X G (x := "ALL") (z := "all") (c.fa 79),
  He.str_ok X G (x := "ANY") (z := "any") (c.fa 80),
  He.str_ok X G (x := "OUST") (z := "oust") (c.fa 81),
  He.int_ok X G (x := "MOST_CALLS") (i := 400) (c.fa 74),
  He.str_ok X G (x := "TAKEN") (z := "taken") (c.fa 82),
  He.str_ok X G (x := "OUSTED") (z := "ousted") (c.fa 83),
  He.str_ok X G (x := "REFUSED") (z := "refused") (c.fa 84),
  He.int_ok X G (x := "MOST_DEEDS") (i := 400) (c.fa 75),
  He.str_ok X G (x := "CALL") (z := "call") (c.fa 85),
  He.str_ok X G (x := "GIVE") (z := "give") (c.fa 86),
  He.str_ok X G (x := "CHANGE") (z := "change") (c.fa 87)⟩
theorem k_is_whole (X : K.In h) (G : h.Ns mainGlobals mg) (c : SaysW w h K) : FnF K mg "is_whole" s_is_whole ["value", "least", "most"] := by
  obtain ⟨fd, F⟩ := c.fn 0
  have F2 : Fun K "is_whole" "is_whole" s_is_whole _ fd := He5.fun_of F
  exact ⟨_, fd, F2, F2.binds fun kV doc pm an cdv ct us hl => match us, hl with | [_, _, _], _ => rfl, He.glo_ok X G (c.fa 0)⟩
theorem k_need_hall (X : K.In h) (G : h.Ns mainGlobals mg) (c : SaysW w h K) : FnF K mg "need_hall" s_need_hall ["hall"] := by
  obtain ⟨fd, F⟩ := c.fn 1
  have F2 : Fun K "need_hall" "need_hall" s_need_hall _ fd := He5.fun_of F
  exact ⟨_, fd, F2, F2.binds fun kV doc pm an cdv ct us hl => match us, hl with | [_], _ => rfl, He.glo_ok X G (c.fa 1)⟩
theorem k_are_limits (X : K.In h) (G : h.Ns mainGlobals mg) (c : SaysW w h K) : FnF K mg "are_limits" s_are_limits ["hall", "value"] := by
  obtain ⟨fd, F⟩ := c.fn 2
  have F2 : Fun K "are_limits" "are_limits" s_are_limits _ fd := He5.fun_of F
  exact ⟨_, fd, F2, F2.binds fun kV doc pm an cdv ct us hl => match us, hl with | [_, _], _ => rfl, He.glo_ok X G (c.fa 2)⟩
theorem k_is_plain (X : K.In h) (G : h.Ns mainGlobals mg) (c : SaysW w h K) : FnF K mg "is_plain" s_is_plain ["hall", "value"] := by
  obtain ⟨fd, F⟩ := c.fn 3
  have F2 : Fun K "is_plain" "is_plain" s_is_plain _ fd := He5.fun_of F
  exact ⟨_, fd, F2, F2.binds fun kV doc pm an cdv ct us hl => match us, hl with | [_, _], _ => rfl, He.glo_ok X G (c.fa 3)⟩
theorem k_is_word (X : K.In h) (G : h.Ns mainGlobals mg) (c : SaysW w h K) : FnF K mg "is_word" s_is_word ["hall", "value", "is_outside"] := by
  obtain ⟨fd, F⟩ := c.fn 4
  have F2 : Fun K "is_word" "is_word" s_is_word _ fd := He5.fun_of F
  exact ⟨_, fd, F2, F2.binds fun kV doc pm an cdv ct us hl => match us, hl with | [_, _, _], _ => rfl, He.glo_ok X G (c.fa 4)⟩
theorem k_parts_of (X : K.In h) (G : h.Ns mainGlobals mg) (c : SaysW w h K) : FnF K mg "parts_of" s_parts_of ["rule"] := by
  obtain ⟨fd, F⟩ := c.fn 5
  have F2 : Fun K "parts_of" "parts_of" s_parts_of _ fd := He5.fun_of F
  exact ⟨_, fd, F2, F2.binds fun kV doc pm an cdv ct us hl => match us, hl with | [_], _ => rfl, He.glo_ok X G (c.fa 5)⟩
theorem k_need_rule (X : K.In h) (G : h.Ns mainGlobals mg) (c : SaysW w h K) : FnF K mg "need_rule" s_need_rule ["hall", "rule"] := by
  obtain ⟨fd, F⟩ := c.fn 6
  have F2 : Fun K "need_rule" "need_rule" s_need_rule _ fd := He5.fun_of F
  exact ⟨_, fd, F2, F2.binds fun kV doc pm an cdv ct us hl => match us, hl with | [_, _], _ => rfl, He.glo_ok X G (c.fa 6)⟩
theorem k_lets_plain (X : K.In h) (G : h.Ns mainGlobals mg) (c : SaysW w h K) : FnF K mg "lets_plain" s_lets_plain ["hall", "rule", "sold", "fare"] := by
  obtain ⟨fd, F⟩ := c.fn 7
  have F2 : Fun K "lets_plain" "lets_plain" s_lets_plain _ fd := He5.fun_of F
  exact ⟨_, fd, F2, F2.binds fun kV doc pm an cdv ct us hl => match us, hl with | [_, _, _, _], _ => rfl, He.glo_ok X G (c.fa 7)⟩
theorem k_lets_of (X : K.In h) (G : h.Ns mainGlobals mg) (c : SaysW w h K) : FnF K mg "lets_of" s_lets_of ["hall", "rule", "sold", "fare"] := by
  obtain ⟨fd, F⟩ := c.fn 8
  have F2 : Fun K "lets_of" "lets_of" s_lets_of _ fd := He5.fun_of F
  exact ⟨_, fd, F2, F2.binds fun kV doc pm an cdv ct us hl => match us, hl with | [_, _, _, _], _ => rfl, He.glo_ok X G (c.fa 8)⟩
theorem k_none_of (X : K.In h) (G : h.Ns mainGlobals mg) (c : SaysW w h K) : FnF K mg "none_of" s_none_of ["hall"] := by
  obtain ⟨fd, F⟩ := c.fn 9
  have F2 : Fun K "none_of" "none_of" s_none_of _ fd := He5.fun_of F
  exact ⟨_, fd, F2, F2.binds fun kV doc pm an cdv ct us hl => match us, hl with | [_], _ => rfl, He.glo_ok X G (c.fa 9)⟩
theorem k_with_more (X : K.In h) (G : h.Ns mainGlobals mg) (c : SaysW w h K) : FnF K mg "with_more" s_with_more ["counts", "number", "more"] := by
  obtain ⟨fd, F⟩ := c.fn 10
  have F2 : Fun K "with_more" "with_more" s_with_more _ fd := He5.fun_of F
  exact ⟨_, fd, F2, F2.binds fun kV doc pm an cdv ct us hl => match us, hl with | [_, _, _], _ => rfl, He.glo_ok X G (c.fa 10)⟩
theorem k_cheapest_sold (X : K.In h) (G : h.Ns mainGlobals mg) (c : SaysW w h K) : FnF K mg "cheapest_sold" s_cheapest_sold ["sold"] := by
  obtain ⟨fd, F⟩ := c.fn 11
  have F2 : Fun K "cheapest_sold" "cheapest_sold" s_cheapest_sold _ fd := He5.fun_of F
  exact ⟨_, fd, F2, F2.binds fun kV doc pm an cdv ct us hl => match us, hl with | [_], _ => rfl, He.glo_ok X G (c.fa 11)⟩
theorem k_step_of (X : K.In h) (G : h.Ns mainGlobals mg) (c : SaysW w h K) : FnF K mg "step_of" s_step_of ["hall", "rule", "sold", "paid", "fare"] := by
  obtain ⟨fd, F⟩ := c.fn 12
  have F2 : Fun K "step_of" "step_of" s_step_of _ fd := He5.fun_of F
  exact ⟨_, fd, F2, F2.binds fun kV doc pm an cdv ct us hl => match us, hl with | [_, _, _, _, _], _ => rfl, He.glo_ok X G (c.fa 12)⟩
theorem k_seen_with (X : K.In h) (G : h.Ns mainGlobals mg) (c : SaysW w h K) : FnF K mg "seen_with" s_seen_with ["hall", "seen", "fare"] := by
  obtain ⟨fd, F⟩ := c.fn 13
  have F2 : Fun K "seen_with" "seen_with" s_seen_with _ fd := He5.fun_of F
  exact ⟨_, fd, F2, F2.binds fun kV doc pm an cdv ct us hl => match us, hl with | [_, _, _], _ => rfl, He.glo_ok X G (c.fa 13)⟩
theorem k_need_calls (X : K.In h) (G : h.Ns mainGlobals mg) (c : SaysW w h K) : FnF K mg "need_calls" s_need_calls ["hall", "row"] := by
  obtain ⟨fd, F⟩ := c.fn 14
  have F2 : Fun K "need_calls" "need_calls" s_need_calls _ fd := He5.fun_of F
  exact ⟨_, fd, F2, F2.binds fun kV doc pm an cdv ct us hl => match us, hl with | [_, _], _ => rfl, He.glo_ok X G (c.fa 14)⟩
theorem k_seen_of (X : K.In h) (G : h.Ns mainGlobals mg) (c : SaysW w h K) : FnF K mg "seen_of" s_seen_of ["hall", "row"] := by
  obtain ⟨fd, F⟩ := c.fn 15
  have F2 : Fun K "seen_of" "seen_of" s_seen_of _ fd := He5.fun_of F
  exact ⟨_, fd, F2, F2.binds fun kV doc pm an cdv ct us hl => match us, hl with | [_, _], _ => rfl, He.glo_ok X G (c.fa 15)⟩
theorem k_seen (X : K.In h) (G : h.Ns mainGlobals mg) (c : SaysW w h K) : FnF K mg "seen" s_seen ["hall", "row"] := by
  obtain ⟨fd, F⟩ := c.fn 16
  have F2 : Fun K "seen" "seen" s_seen _ fd := He5.fun_of F
  exact ⟨_, fd, F2, F2.binds fun kV doc pm an cdv ct us hl => match us, hl with | [_, _], _ => rfl, He.glo_ok X G (c.fa 16)⟩
theorem k_worth_of (X : K.In h) (G : h.Ns mainGlobals mg) (c : SaysW w h K) : FnF K mg "worth_of" s_worth_of ["hall", "counts"] := by
  obtain ⟨fd, F⟩ := c.fn 17
  have F2 : Fun K "worth_of" "worth_of" s_worth_of _ fd := He5.fun_of F
  exact ⟨_, fd, F2, F2.binds fun kV doc pm an cdv ct us hl => match us, hl with | [_, _], _ => rfl, He.glo_ok X G (c.fa 17)⟩
theorem k_hindsight (X : K.In h) (G : h.Ns mainGlobals mg) (c : SaysW w h K) : FnF K mg "hindsight" s_hindsight ["hall", "row"] := by
  obtain ⟨fd, F⟩ := c.fn 18
  have F2 : Fun K "hindsight" "hindsight" s_hindsight _ fd := He5.fun_of F
  exact ⟨_, fd, F2, F2.binds fun kV doc pm an cdv ct us hl => match us, hl with | [_, _], _ => rfl, He.glo_ok X G (c.fa 18)⟩
theorem k_under (X : K.In h) (G : h.Ns mainGlobals mg) (c : SaysW w h K) : FnF K mg "under" s_under ["manager", "deed"] := by
  obtain ⟨fd, F⟩ := c.fn 19
  have F2 : Fun K "under" "under" s_under _ fd := He5.fun_of F
  exact ⟨_, fd, F2, F2.binds fun kV doc pm an cdv ct us hl => match us, hl with | [_, _], _ => rfl, He.glo_ok X G (c.fa 19)⟩
theorem k_l_mixed (X : K.In h) (G : h.Ns mainGlobals mg) (c : SaysW w h K) : FnF K mg "_law_mixed" s_l_mixed ["_law_cell", "_law_n"] := by
  obtain ⟨fd, F⟩ := c.fn 20
  have F2 : Fun K "_law_mixed" "_law_mixed" s_l_mixed _ fd := He5.fun_of F
  exact ⟨_, fd, F2, F2.binds fun kV doc pm an cdv ct us hl => match us, hl with | [_, _], _ => rfl, He.glo_ok X G (c.fa 20)⟩
theorem k_l_folded (X : K.In h) (G : h.Ns mainGlobals mg) (c : SaysW w h K) : FnF K mg "_law_folded" s_l_folded ["_law_script"] := by
  obtain ⟨fd, F⟩ := c.fn 21
  have F2 : Fun K "_law_folded" "_law_folded" s_l_folded _ fd := He5.fun_of F
  exact ⟨_, fd, F2, F2.binds fun kV doc pm an cdv ct us hl => match us, hl with | [_], _ => rfl, He.glo_ok X G (c.fa 21)⟩
theorem k_l_draw (X : K.In h) (G : h.Ns mainGlobals mg) (c : SaysW w h K) : FnF K mg "_law_draw" s_l_draw ["_law_m", "_law_limit"] := by
  obtain ⟨fd, F⟩ := c.fn 22
  have F2 : Fun K "_law_draw" "_law_draw" s_l_draw _ fd := He5.fun_of F
  exact ⟨_, fd, F2, F2.binds fun kV doc pm an cdv ct us hl => match us, hl with | [_, _], _ => rfl, He.glo_ok X G (c.fa 22)⟩
theorem k_l_begun (X : K.In h) (G : h.Ns mainGlobals mg) (c : SaysW w h K) : FnF K mg "_law_begun" s_l_begun ["_law_script"] := by
  obtain ⟨fd, F⟩ := c.fn 23
  have F2 : Fun K "_law_begun" "_law_begun" s_l_begun _ fd := He5.fun_of F
  exact ⟨_, fd, F2, F2.binds fun kV doc pm an cdv ct us hl => match us, hl with | [_], _ => rfl, He.glo_ok X G (c.fa 23)⟩
theorem k_l_like (X : K.In h) (G : h.Ns mainGlobals mg) (c : SaysW w h K) : FnF K mg "_law_like" s_l_like ["_law_answer", "_law_due"] := by
  obtain ⟨fd, F⟩ := c.fn 24
  have F2 : Fun K "_law_like" "_law_like" s_l_like _ fd := He5.fun_of F
  exact ⟨_, fd, F2, F2.binds fun kV doc pm an cdv ct us hl => match us, hl with | [_, _], _ => rfl, He.glo_ok X G (c.fa 24)⟩
theorem k_l_of (X : K.In h) (G : h.Ns mainGlobals mg) (c : SaysW w h K) : FnF K mg "_law_of" s_l_of ["_law_m", "_law_some"] := by
  obtain ⟨fd, F⟩ := c.fn 25
  have F2 : Fun K "_law_of" "_law_of" s_l_of _ fd := He5.fun_of F
  exact ⟨_, fd, F2, F2.binds fun kV doc pm an cdv ct us hl => match us, hl with | [_, _], _ => rfl, He.glo_ok X G (c.fa 25)⟩
theorem k_l_fares (X : K.In h) (G : h.Ns mainGlobals mg) (c : SaysW w h K) : FnF K mg "_law_fares" s_l_fares ["_law_m", "_law_most"] := by
  obtain ⟨fd, F⟩ := c.fn 26
  have F2 : Fun K "_law_fares" "_law_fares" s_l_fares _ fd := He5.fun_of F
  exact ⟨_, fd, F2, F2.binds fun kV doc pm an cdv ct us hl => match us, hl with | [_, _], _ => rfl, He.glo_ok X G (c.fa 26)⟩
theorem k_l_hall (X : K.In h) (G : h.Ns mainGlobals mg) (c : SaysW w h K) : FnF K mg "_law_hall" s_l_hall ["_law_m", "_law_seats", "_law_fares_here"] := by
  obtain ⟨fd, F⟩ := c.fn 27
  have F2 : Fun K "_law_hall" "_law_hall" s_l_hall _ fd := He5.fun_of F
  exact ⟨_, fd, F2, F2.binds fun kV doc pm an cdv ct us hl => match us, hl with | [_, _, _], _ => rfl, He.glo_ok X G (c.fa 27)⟩
theorem k_l_plain (X : K.In h) (G : h.Ns mainGlobals mg) (c : SaysW w h K) : FnF K mg "_law_plain" s_l_plain ["_law_m", "_law_hall_so"] := by
  obtain ⟨fd, F⟩ := c.fn 28
  have F2 : Fun K "_law_plain" "_law_plain" s_l_plain _ fd := He5.fun_of F
  exact ⟨_, fd, F2, F2.binds fun kV doc pm an cdv ct us hl => match us, hl with | [_, _], _ => rfl, He.glo_ok X G (c.fa 28)⟩
theorem k_l_rule (X : K.In h) (G : h.Ns mainGlobals mg) (c : SaysW w h K) : FnF K mg "_law_rule" s_l_rule ["_law_m", "_law_hall_so"] := by
  obtain ⟨fd, F⟩ := c.fn 29
  have F2 : Fun K "_law_rule" "_law_rule" s_l_rule _ fd := He5.fun_of F
  exact ⟨_, fd, F2, F2.binds fun kV doc pm an cdv ct us hl => match us, hl with | [_, _], _ => rfl, He.glo_ok X G (c.fa 29)⟩
theorem k_l_lets (X : K.In h) (G : h.Ns mainGlobals mg) (c : SaysW w h K) : FnF K mg "_law_lets" s_l_lets ["_law_seats_so", "_law_some", "_law_sold_so", "_law_k"] := by
  obtain ⟨fd, F⟩ := c.fn 30
  have F2 : Fun K "_law_lets" "_law_lets" s_l_lets _ fd := He5.fun_of F
  exact ⟨_, fd, F2, F2.binds fun kV doc pm an cdv ct us hl => match us, hl with | [_, _, _, _], _ => rfl, He.glo_ok X G (c.fa 30)⟩
theorem k_l_more (X : K.In h) (G : h.Ns mainGlobals mg) (c : SaysW w h K) : FnF K mg "_law_more" s_l_more ["_law_counts", "_law_k", "_law_more_here"] := by
  obtain ⟨fd, F⟩ := c.fn 31
  have F2 : Fun K "_law_more" "_law_more" s_l_more _ fd := He5.fun_of F
  exact ⟨_, fd, F2, F2.binds fun kV doc pm an cdv ct us hl => match us, hl with | [_, _, _], _ => rfl, He.glo_ok X G (c.fa 31)⟩
theorem k_l_deal (X : K.In h) (G : h.Ns mainGlobals mg) (c : SaysW w h K) : FnF K mg "_law_deal" s_l_deal ["_law_hall_so", "_law_some", "_law_sold_so", "_law_paid_so", "_law_k"] := by
  obtain ⟨fd, F⟩ := c.fn 32
  have F2 : Fun K "_law_deal" "_law_deal" s_l_deal _ fd := He5.fun_of F
  exact ⟨_, fd, F2, F2.binds fun kV doc pm an cdv ct us hl => match us, hl with | [_, _, _, _, _], _ => rfl, He.glo_ok X G (c.fa 32)⟩
theorem k_l_worth (X : K.In h) (G : h.Ns mainGlobals mg) (c : SaysW w h K) : FnF K mg "_law_worth" s_l_worth ["_law_hall_so", "_law_counts"] := by
  obtain ⟨fd, F⟩ := c.fn 33
  have F2 : Fun K "_law_worth" "_law_worth" s_l_worth _ fd := He5.fun_of F
  exact ⟨_, fd, F2, F2.binds fun kV doc pm an cdv ct us hl => match us, hl with | [_, _], _ => rfl, He.glo_ok X G (c.fa 33)⟩
theorem k_l_best (X : K.In h) (G : h.Ns mainGlobals mg) (c : SaysW w h K) : FnF K mg "_law_best" s_l_best ["_law_hall_so", "_law_calls_so"] := by
  obtain ⟨fd, F⟩ := c.fn 34
  have F2 : Fun K "_law_best" "_law_best" s_l_best _ fd := He5.fun_of F
  exact ⟨_, fd, F2, F2.binds fun kV doc pm an cdv ct us hl => match us, hl with | [_, _], _ => rfl, He.glo_ok X G (c.fa 34)⟩
theorem k_l_said (X : K.In h) (G : h.Ns mainGlobals mg) (c : SaysW w h K) : FnF K mg "_law_said" s_l_said ["_law_call"] := by
  obtain ⟨fd, F⟩ := c.fn 35
  have F2 : Fun K "_law_said" "_law_said" s_l_said _ fd := He5.fun_of F
  exact ⟨_, fd, F2, F2.binds fun kV doc pm an cdv ct us hl => match us, hl with | [_], _ => rfl, He.glo_ok X G (c.fa 35)⟩
theorem k_l_begin_book (X : K.In h) (G : h.Ns mainGlobals mg) (c : SaysW w h K) : FnF K mg "_law_begin_book" s_l_begin_book ["_law_hall_so", "_law_some"] := by
  obtain ⟨fd, F⟩ := c.fn 36
  have F2 : Fun K "_law_begin_book" "_law_begin_book" s_l_begin_book _ fd := He5.fun_of F
  exact ⟨_, fd, F2, F2.binds fun kV doc pm an cdv ct us hl => match us, hl with | [_, _], _ => rfl, He.glo_ok X G (c.fa 36)⟩
theorem k_l_calls_in (X : K.In h) (G : h.Ns mainGlobals mg) (c : SaysW w h K) : FnF K mg "_law_calls_in" s_l_calls_in ["_law_own"] := by
  obtain ⟨fd, F⟩ := c.fn 37
  have F2 : Fun K "_law_calls_in" "_law_calls_in" s_l_calls_in _ fd := He5.fun_of F
  exact ⟨_, fd, F2, F2.binds fun kV doc pm an cdv ct us hl => match us, hl with | [_], _ => rfl, He.glo_ok X G (c.fa 37)⟩
theorem k_l_stands (X : K.In h) (G : h.Ns mainGlobals mg) (c : SaysW w h K) : FnF K mg "_law_stands" s_l_stands ["_law_book", "_law_hall_so", "_law_own"] := by
  obtain ⟨fd, F⟩ := c.fn 38
  have F2 : Fun K "_law_stands" "_law_stands" s_l_stands _ fd := He5.fun_of F
  exact ⟨_, fd, F2, F2.binds fun kV doc pm an cdv ct us hl => match us, hl with | [_, _, _], _ => rfl, He.glo_ok X G (c.fa 38)⟩
theorem k_l_keep (X : K.In h) (G : h.Ns mainGlobals mg) (c : SaysW w h K) : FnF K mg "_law_keep" s_l_keep ["_law_own", "_law_deed", "_law_some", "_law_sold_so", "_law_paid_so"] := by
  obtain ⟨fd, F⟩ := c.fn 39
  have F2 : Fun K "_law_keep" "_law_keep" s_l_keep _ fd := He5.fun_of F
  exact ⟨_, fd, F2, F2.binds fun kV doc pm an cdv ct us hl => match us, hl with | [_, _, _, _, _], _ => rfl, He.glo_ok X G (c.fa 39)⟩
theorem k_l_turn (X : K.In h) (G : h.Ns mainGlobals mg) (c : SaysW w h K) : FnF K mg "_law_turn" s_l_turn ["_law_m", "_law_book", "_law_hall_so", "_law_own"] := by
  obtain ⟨fd, F⟩ := c.fn 40
  have F2 : Fun K "_law_turn" "_law_turn" s_l_turn _ fd := He5.fun_of F
  exact ⟨_, fd, F2, F2.binds fun kV doc pm an cdv ct us hl => match us, hl with | [_, _, _, _], _ => rfl, He.glo_ok X G (c.fa 40)⟩
theorem k_l_led (X : K.In h) (G : h.Ns mainGlobals mg) (c : SaysW w h K) : FnF K mg "_law_led" s_l_led ["_law_m", "_law_book", "_law_hall_so", "_law_own", "_law_many"] := by
  obtain ⟨fd, F⟩ := c.fn 41
  have F2 : Fun K "_law_led" "_law_led" s_l_led _ fd := He5.fun_of F
  exact ⟨_, fd, F2, F2.binds fun kV doc pm an cdv ct us hl => match us, hl with | [_, _, _, _, _], _ => rfl, He.glo_ok X G (c.fa 41)⟩
theorem k_l_twin_of (X : K.In h) (G : h.Ns mainGlobals mg) (c : SaysW w h K) : FnF K mg "_law_twin_of" s_l_twin_of ["_law_own"] := by
  obtain ⟨fd, F⟩ := c.fn 42
  have F2 : Fun K "_law_twin_of" "_law_twin_of" s_l_twin_of _ fd := He5.fun_of F
  exact ⟨_, fd, F2, F2.binds fun kV doc pm an cdv ct us hl => match us, hl with | [_], _ => rfl, He.glo_ok X G (c.fa 42)⟩
theorem k_l_inner (X : K.In h) (G : h.Ns mainGlobals mg) (c : SaysW w h K) : FnF K mg "_law_inner" s_l_inner ["_law_m", "_law_led_so", "_law_held", "_law_hall_so", "_law_way"] := by
  obtain ⟨fd, F⟩ := c.fn 43
  have F2 : Fun K "_law_inner" "_law_inner" s_l_inner _ fd := He5.fun_of F
  exact ⟨_, fd, F2, F2.binds fun kV doc pm an cdv ct us hl => match us, hl with | [_, _, _, _, _], _ => rfl, He.glo_ok X G (c.fa 43)⟩
theorem k_l_tried (X : K.In h) (G : h.Ns mainGlobals mg) (c : SaysW w h K) : FnF K mg "_law_tried" s_l_tried ["_law_m", "_law_book", "_law_hall_so", "_law_own", "_law_way"] := by
  obtain ⟨fd, F⟩ := c.fn 44
  have F2 : Fun K "_law_tried" "_law_tried" s_l_tried _ fd := He5.fun_of F
  exact ⟨_, fd, F2, F2.binds fun kV doc pm an cdv ct us hl => match us, hl with | [_, _, _, _, _], _ => rfl, He.glo_ok X G (c.fa 44)⟩
theorem k_l_back_right (X : K.In h) (G : h.Ns mainGlobals mg) (c : SaysW w h K) : FnF K mg "_law_back_right" s_l_back_right ["_law_book", "_law_hall_so", "_law_own"] := by
  obtain ⟨fd, F⟩ := c.fn 45
  have F2 : Fun K "_law_back_right" "_law_back_right" s_l_back_right _ fd := He5.fun_of F
  exact ⟨_, fd, F2, F2.binds fun kV doc pm an cdv ct us hl => match us, hl with | [_, _, _], _ => rfl, He.glo_ok X G (c.fa 45)⟩
theorem k_law (X : K.In h) (G : h.Ns mainGlobals mg) (c : SaysW w h K) : FnF K mg "law" s_law ["_law_script"] := by
  obtain ⟨fd, F⟩ := c.fn 46
  have F2 : Fun K "law" "law" s_law _ fd := He5.fun_of F
  exact ⟨_, fd, F2, F2.binds fun kV doc pm an cdv ct us hl => match us, hl with | [_], _ => rfl, He.glo_ok X G (c.fa 46)⟩
theorem k_Trial___init (c : SaysW w h K) : ∃ fd, Fun K "__init__" "Trial.__init__" s_Trial___init (He.ma K (He.ga K "Trial") "__init__") fd ∧ Binds K fd ["self", "held_book"] [] := by
  obtain ⟨fd, F⟩ := c.fn 47
  have F2 : Fun K "__init__" "Trial.__init__" s_Trial___init (He.ma K (He.ga K "Trial") "__init__") fd := He5.fun_of F
  exact ⟨fd, F2, F2.binds fun kV doc pm an cdv ct us hl => match us, hl with | [_, _], _ => rfl⟩
theorem k_Trial___enter (c : SaysW w h K) : ∃ fd, Fun K "__enter__" "Trial.__enter__" s_Trial___enter (He.ma K (He.ga K "Trial") "__enter__") fd ∧ Binds K fd ["self"] [] := by
  obtain ⟨fd, F⟩ := c.fn 48
  have F2 : Fun K "__enter__" "Trial.__enter__" s_Trial___enter (He.ma K (He.ga K "Trial") "__enter__") fd := He5.fun_of F
  exact ⟨fd, F2, F2.binds fun kV doc pm an cdv ct us hl => match us, hl with | [_], _ => rfl⟩
theorem k_Trial___exit (c : SaysW w h K) : ∃ fd, Fun K "__exit__" "Trial.__exit__" s_Trial___exit (He.ma K (He.ga K "Trial") "__exit__") fd ∧ Binds K fd ["self", "kind", "told", "trace"] [] := by
  obtain ⟨fd, F⟩ := c.fn 49
  have F2 : Fun K "__exit__" "Trial.__exit__" s_Trial___exit (He.ma K (He.ga K "Trial") "__exit__") fd := He5.fun_of F
  exact ⟨fd, F2, F2.binds fun kV doc pm an cdv ct us hl => match us, hl with | [_, _, _, _], _ => rfl⟩
theorem k_Book___init (c : SaysW w h K) : ∃ fd, Fun K "__init__" "Book.__init__" s_Book___init (He.ma K (He.ga K "Book") "__init__") fd ∧ Binds K fd ["self", "hall", "rule"] [] := by
  obtain ⟨fd, F⟩ := c.fn 50
  have F2 : Fun K "__init__" "Book.__init__" s_Book___init (He.ma K (He.ga K "Book") "__init__") fd := He5.fun_of F
  exact ⟨fd, F2, F2.binds fun kV doc pm an cdv ct us hl => match us, hl with | [_, _, _], _ => rfl⟩
theorem k_Book_hall (c : SaysW w h K) : ∃ fd, Fun K "hall" "Book.hall" s_Book_hall (getA K (He.ga K "Book") "hall") fd ∧ Binds K fd ["self"] [] := by
  obtain ⟨fd, F⟩ := c.fn 51
  have F2 : Fun K "hall" "Book.hall" s_Book_hall (getA K (He.ga K "Book") "hall") fd := He5.fun_of F
  exact ⟨fd, F2, F2.binds fun kV doc pm an cdv ct us hl => match us, hl with | [_], _ => rfl⟩
theorem k_Book_rule (c : SaysW w h K) : ∃ fd, Fun K "rule" "Book.rule" s_Book_rule (getA K (He.ga K "Book") "rule") fd ∧ Binds K fd ["self"] [] := by
  obtain ⟨fd, F⟩ := c.fn 52
  have F2 : Fun K "rule" "Book.rule" s_Book_rule (getA K (He.ga K "Book") "rule") fd := He5.fun_of F
  exact ⟨fd, F2, F2.binds fun kV doc pm an cdv ct us hl => match us, hl with | [_], _ => rfl⟩
theorem k_Book_sold (c : SaysW w h K) : ∃ fd, Fun K "sold" "Book.sold" s_Book_sold (getA K (He.ga K "Book") "sold") fd ∧ Binds K fd ["self"] [] := by
  obtain ⟨fd, F⟩ := c.fn 53
  have F2 : Fun K "sold" "Book.sold" s_Book_sold (getA K (He.ga K "Book") "sold") fd := He5.fun_of F
  exact ⟨fd, F2, F2.binds fun kV doc pm an cdv ct us hl => match us, hl with | [_], _ => rfl⟩
theorem k_Book_paid (c : SaysW w h K) : ∃ fd, Fun K "paid" "Book.paid" s_Book_paid (getA K (He.ga K "Book") "paid") fd ∧ Binds K fd ["self"] [] := by
  obtain ⟨fd, F⟩ := c.fn 54
  have F2 : Fun K "paid" "Book.paid" s_Book_paid (getA K (He.ga K "Book") "paid") fd := He5.fun_of F
  exact ⟨fd, F2, F2.binds fun kV doc pm an cdv ct us hl => match us, hl with | [_], _ => rfl⟩
theorem k_Book___len (c : SaysW w h K) : ∃ fd, Fun K "__len__" "Book.__len__" s_Book___len (He.ma K (He.ga K "Book") "__len__") fd ∧ Binds K fd ["self"] [] := by
  obtain ⟨fd, F⟩ := c.fn 55
  have F2 : Fun K "__len__" "Book.__len__" s_Book___len (He.ma K (He.ga K "Book") "__len__") fd := He5.fun_of F
  exact ⟨fd, F2, F2.binds fun kV doc pm an cdv ct us hl => match us, hl with | [_], _ => rfl⟩
theorem k_Book_calls (c : SaysW w h K) : ∃ fd, Fun K "calls" "Book.calls" s_Book_calls (He.ma K (He.ga K "Book") "calls") fd ∧ Binds K fd ["self"] [] := by
  obtain ⟨fd, F⟩ := c.fn 56
  have F2 : Fun K "calls" "Book.calls" s_Book_calls (He.ma K (He.ga K "Book") "calls") fd := He5.fun_of F
  exact ⟨fd, F2, F2.binds fun kV doc pm an cdv ct us hl => match us, hl with | [_], _ => rfl⟩
theorem k_Book_got (c : SaysW w h K) : ∃ fd, Fun K "got" "Book.got" s_Book_got (He.ma K (He.ga K "Book") "got") fd ∧ Binds K fd ["self"] [] := by
  obtain ⟨fd, F⟩ := c.fn 57
  have F2 : Fun K "got" "Book.got" s_Book_got (He.ma K (He.ga K "Book") "got") fd := He5.fun_of F
  exact ⟨fd, F2, F2.binds fun kV doc pm an cdv ct us hl => match us, hl with | [_], _ => rfl⟩
theorem k_Book_regret (c : SaysW w h K) : ∃ fd, Fun K "regret" "Book.regret" s_Book_regret (He.ma K (He.ga K "Book") "regret") fd ∧ Binds K fd ["self"] [] := by
  obtain ⟨fd, F⟩ := c.fn 58
  have F2 : Fun K "regret" "Book.regret" s_Book_regret (He.ma K (He.ga K "Book") "regret") fd := He5.fun_of F
  exact ⟨fd, F2, F2.binds fun kV doc pm an cdv ct us hl => match us, hl with | [_], _ => rfl⟩
theorem k_Book_need_room (c : SaysW w h K) : ∃ fd, Fun K "need_room" "Book.need_room" s_Book_need_room (He.ma K (He.ga K "Book") "need_room") fd ∧ Binds K fd ["self"] [] := by
  obtain ⟨fd, F⟩ := c.fn 59
  have F2 : Fun K "need_room" "Book.need_room" s_Book_need_room (He.ma K (He.ga K "Book") "need_room") fd := He5.fun_of F
  exact ⟨fd, F2, F2.binds fun kV doc pm an cdv ct us hl => match us, hl with | [_], _ => rfl⟩
theorem k_Book_need_fare (c : SaysW w h K) : ∃ fd, Fun K "need_fare" "Book.need_fare" s_Book_need_fare (He.ma K (He.ga K "Book") "need_fare") fd ∧ Binds K fd ["self", "fare"] [] := by
  obtain ⟨fd, F⟩ := c.fn 60
  have F2 : Fun K "need_fare" "Book.need_fare" s_Book_need_fare (He.ma K (He.ga K "Book") "need_fare") fd := He5.fun_of F
  exact ⟨fd, F2, F2.binds fun kV doc pm an cdv ct us hl => match us, hl with | [_, _], _ => rfl⟩
theorem k_Book_keep (c : SaysW w h K) : ∃ fd, Fun K "keep" "Book.keep" s_Book_keep (He.ma K (He.ga K "Book") "keep") fd ∧ Binds K fd ["self", "one"] [] := by
  obtain ⟨fd, F⟩ := c.fn 61
  have F2 : Fun K "keep" "Book.keep" s_Book_keep (He.ma K (He.ga K "Book") "keep") fd := He5.fun_of F
  exact ⟨fd, F2, F2.binds fun kV doc pm an cdv ct us hl => match us, hl with | [_, _], _ => rfl⟩
theorem k_Book_call (c : SaysW w h K) : ∃ fd, Fun K "call" "Book.call" s_Book_call (He.ma K (He.ga K "Book") "call") fd ∧ Binds K fd ["self", "fare"] [] := by
  obtain ⟨fd, F⟩ := c.fn 62
  have F2 : Fun K "call" "Book.call" s_Book_call (He.ma K (He.ga K "Book") "call") fd := He5.fun_of F
  exact ⟨fd, F2, F2.binds fun kV doc pm an cdv ct us hl => match us, hl with | [_, _], _ => rfl⟩
theorem k_Book_give (c : SaysW w h K) : ∃ fd, Fun K "give" "Book.give" s_Book_give (He.ma K (He.ga K "Book") "give") fd ∧ Binds K fd ["self", "fare"] [] := by
  obtain ⟨fd, F⟩ := c.fn 63
  have F2 : Fun K "give" "Book.give" s_Book_give (He.ma K (He.ga K "Book") "give") fd := He5.fun_of F
  exact ⟨fd, F2, F2.binds fun kV doc pm an cdv ct us hl => match us, hl with | [_, _], _ => rfl⟩
theorem k_Book_change (c : SaysW w h K) : ∃ fd, Fun K "change" "Book.change" s_Book_change (He.ma K (He.ga K "Book") "change") fd ∧ Binds K fd ["self", "rule"] [] := by
  obtain ⟨fd, F⟩ := c.fn 64
  have F2 : Fun K "change" "Book.change" s_Book_change (He.ma K (He.ga K "Book") "change") fd := He5.fun_of F
  exact ⟨fd, F2, F2.binds fun kV doc pm an cdv ct us hl => match us, hl with | [_, _], _ => rfl⟩
theorem k_Book_undo (c : SaysW w h K) : ∃ fd, Fun K "undo" "Book.undo" s_Book_undo (He.ma K (He.ga K "Book") "undo") fd ∧ Binds K fd ["self"] [] := by
  obtain ⟨fd, F⟩ := c.fn 65
  have F2 : Fun K "undo" "Book.undo" s_Book_undo (He.ma K (He.ga K "Book") "undo") fd := He5.fun_of F
  exact ⟨fd, F2, F2.binds fun kV doc pm an cdv ct us hl => match us, hl with | [_], _ => rfl⟩
theorem k_Book_redo (c : SaysW w h K) : ∃ fd, Fun K "redo" "Book.redo" s_Book_redo (He.ma K (He.ga K "Book") "redo") fd ∧ Binds K fd ["self"] [] := by
  obtain ⟨fd, F⟩ := c.fn 66
  have F2 : Fun K "redo" "Book.redo" s_Book_redo (He.ma K (He.ga K "Book") "redo") fd := He5.fun_of F
  exact ⟨fd, F2, F2.binds fun kV doc pm an cdv ct us hl => match us, hl with | [_], _ => rfl⟩
theorem k_Book_copy (c : SaysW w h K) : ∃ fd, Fun K "copy" "Book.copy" s_Book_copy (He.ma K (He.ga K "Book") "copy") fd ∧ Binds K fd ["self"] [] := by
  obtain ⟨fd, F⟩ := c.fn 67
  have F2 : Fun K "copy" "Book.copy" s_Book_copy (He.ma K (He.ga K "Book") "copy") fd := He5.fun_of F
  exact ⟨fd, F2, F2.binds fun kV doc pm an cdv ct us hl => match us, hl with | [_], _ => rfl⟩
theorem k_Book_trial (c : SaysW w h K) : ∃ fd, Fun K "trial" "Book.trial" s_Book_trial (He.ma K (He.ga K "Book") "trial") fd ∧ Binds K fd ["self"] [] := by
  obtain ⟨fd, F⟩ := c.fn 68
  have F2 : Fun K "trial" "Book.trial" s_Book_trial (He.ma K (He.ga K "Book") "trial") fd := He5.fun_of F
  exact ⟨fd, F2, F2.binds fun kV doc pm an cdv ct us hl => match us, hl with | [_], _ => rfl⟩
theorem k_Book___eq (c : SaysW w h K) : ∃ fd, Fun K "__eq__" "Book.__eq__" s_Book___eq (He.ma K (He.ga K "Book") "__eq__") fd ∧ Binds K fd ["self", "other"] [] := by
  obtain ⟨fd, F⟩ := c.fn 69
  have F2 : Fun K "__eq__" "Book.__eq__" s_Book___eq (He.ma K (He.ga K "Book") "__eq__") fd := He5.fun_of F
  exact ⟨fd, F2, F2.binds fun kV doc pm an cdv ct us hl => match us, hl with | [_, _], _ => rfl⟩
theorem k_book (X : K.In h) (G : h.Ns mainGlobals mg) (c : SaysW w h K) : BookF K mg (He.ga K "Book") := ⟨
  He.cls_ok (x := "Book") (c.fa 88),
  He.glo_ok X G (x := "Book") (c.fa 47),
  He.noat_ok (x := "Book") (f := "own_hall") (c.fa 90),
  He.noat_ok (x := "Book") (f := "past") (c.fa 91),
  He.noat_ok (x := "Book") (f := "later") (c.fa 92),
  (let ⟨fd, q1, q2⟩ := k_Book_hall c; ⟨_, _, fd, propB_ok (c.ex 0), q1, q2⟩),
  (let ⟨fd, q1, q2⟩ := k_Book_rule c; ⟨_, _, fd, propB_ok (c.ex 1), q1, q2⟩),
  (let ⟨fd, q1, q2⟩ := k_Book_sold c; ⟨_, _, fd, propB_ok (c.ex 2), q1, q2⟩),
  (let ⟨fd, q1, q2⟩ := k_Book_paid c; ⟨_, _, fd, propB_ok (c.ex 3), q1, q2⟩),
  (let ⟨fd, q1, q2⟩ := k_Book___len c; ⟨_, fd, (dunB_ok (c.ex 4)).1, (dunB_ok (c.ex 4)).2, q1, q2⟩),
  (let ⟨fd, q1, q2⟩ := k_Book___eq c; ⟨_, fd, (dunB_ok (c.ex 5)).1, (dunB_ok (c.ex 5)).2, q1, q2⟩),
  He.eqO_ok (c.ex 8),
  of_decide_eq_true (c.ex 9),
  (let ⟨fd, q1, q2⟩ := k_Book_calls c; ⟨_, fd, q1, q2, He.meth_ok (x := "Book") (m := "calls") (c.fa 96)⟩),
  (let ⟨fd, q1, q2⟩ := k_Book_got c; ⟨_, fd, q1, q2, He.meth_ok (x := "Book") (m := "got") (c.fa 97)⟩),
  (let ⟨fd, q1, q2⟩ := k_Book_regret c; ⟨_, fd, q1, q2, He.meth_ok (x := "Book") (m := "regret") (c.fa 98)⟩),
  (let ⟨fd, q1, q2⟩ := k_Book___init c; ⟨_, fd, q1, q2, He.mkr_ok (x := "Book") (c.fa 109)⟩),
  (let ⟨fd, q1, q2⟩ := k_Book_need_room c; ⟨_, fd, q1, q2, He.meth_ok (x := "Book") (m := "need_room") (c.fa 99)⟩),
  (let ⟨fd, q1, q2⟩ := k_Book_need_fare c; ⟨_, fd, q1, q2, He.meth_ok (x := "Book") (m := "need_fare") (c.fa 100)⟩),
  (let ⟨fd, q1, q2⟩ := k_Book_keep c; ⟨_, fd, q1, q2, He.meth_ok (x := "Book") (m := "keep") (c.fa 101)⟩),
  (let ⟨fd, q1, q2⟩ := k_Book_call c; ⟨_, fd, q1, q2, He.meth_ok (x := "Book") (m := "call") (c.fa 102)⟩),
  (let ⟨fd, q1, q2⟩ := k_Book_give c; ⟨_, fd, q1, q2, He.meth_ok (x := "Book") (m := "give") (c.fa 103)⟩),
  (let ⟨fd, q1, q2⟩ := k_Book_change c; ⟨_, fd, q1, q2, He.meth_ok (x := "Book") (m := "change") (c.fa 104)⟩),
  (let ⟨fd, q1, q2⟩ := k_Book_undo c; ⟨_, fd, q1, q2, He.meth_ok (x := "Book") (m := "undo") (c.fa 105)⟩),
  (let ⟨fd, q1, q2⟩ := k_Book_redo c; ⟨_, fd, q1, q2, He.meth_ok (x := "Book") (m := "redo") (c.fa 106)⟩),
  (let ⟨fd, q1, q2⟩ := k_Book_copy c; ⟨_, fd, q1, q2, He.meth_ok (x := "Book") (m := "copy") (c.fa 107)⟩),
  (let ⟨fd, q1, q2⟩ := k_Book_trial c; ⟨_, fd, q1, q2, He.meth_ok (x := "Book") (m := "trial") (c.fa 108)⟩),
  fun e => .ins e (He.cls_ok (x := "Book") (c.fa 88)) (He.eqO_ok (c.ex 10)) (He.eqO_ok (c.ex 11)) (of_decide_eq_true (c.ex 12)) (of_decide_eq_true (c.ex 9)),
  of_decide_eq_true (c.ex 13),
  of_decide_eq_true (c.ex 14),
  of_decide_eq_true (c.ex 15),
  of_decide_eq_true (c.ex 16)⟩
theorem k_trial (X : K.In h) (G : h.Ns mainGlobals mg) (c : SaysW w h K) : TrialF K mg (He.ga K "Trial") := ⟨
  He.cls_ok (x := "Trial") (c.fa 89),
  He.glo_ok X G (x := "Trial") (c.fa 48),
  He.noat_ok (x := "Trial") (f := "held_book") (c.fa 93),
  He.noat_ok (x := "Trial") (f := "kept_past") (c.fa 94),
  He.noat_ok (x := "Trial") (f := "kept_later") (c.fa 95),
  (let ⟨fd, q1, q2⟩ := k_Trial___init c; ⟨_, fd, q1, q2, He.mkr_ok (x := "Trial") (c.fa 110)⟩),
  (let ⟨fd, q1, q2⟩ := k_Trial___enter c; ⟨_, fd, (dunB_ok (c.ex 6)).1, (dunB_ok (c.ex 6)).2, q1, q2⟩),
  (let ⟨fd, q1, q2⟩ := k_Trial___exit c; ⟨_, fd, (dunB_ok (c.ex 7)).1, (dunB_ok (c.ex 7)).2, q1, q2⟩)⟩
theorem k_eq (c : SaysW w h K) : EqF K (He.ga K "Book") := ⟨c.ex 17, c.ex 18, c.ex 19⟩
theorem k_said (X : K.In h) (G : h.Ns mainGlobals mg) (c : SaysW w h K) : SaidF K mg (He.ga K "BadCall") (He.ga K "BadHall") (He.ga K "BadRule") := ⟨He.glo_ok X G (x := "BadHall") (c.fa 50), He.glo_ok X G (x := "BadRule") (c.fa 51), He.exm_ok (x := "BadCall") (y := "BadHall") (c.fa 111), He.exm_ok (x := "BadCall") (y := "BadRule") (c.fa 112), He.exm_ok (x := "BadCall") (y := "BadCall") (c.fa 113)⟩
theorem k_bad (X : K.In h) (G : h.Ns mainGlobals mg) (c : SaysW w h K) : ∃ fd, BadF PW K mg (He.ga K "BadCall") (badAt K) (badCell K) (badCode K) fd ∧ Binds K fd ["self", "place"] [] := by
  obtain ⟨oc, od, kV, doc, pm, an, ct, osl, lk⟩ := bad_ok c.bad (c.ex 28)
  refine ⟨_, ⟨He.glo_ok X G (x := "BadCall") (c.fa 49), He.free_ok X G (x := "super") (c.fa 67), ⟨oexB_ok (c.ex 20), He.eqO_ok (c.ex 21), of_decide_eq_true (c.ex 22), of_decide_eq_true (c.ex 23), c.ex 24⟩, xfB_ok (c.ex 25), He.eqO_ok (c.ex 26), of_decide_eq_true (c.ex 27), ⟨oc, od, kV, doc, pm, an, ct, osl, rfl, lk⟩, c.ex 29, fileB_ok (c.ex 30), cellB_ok (c.ex 31), of_decide_eq_true (c.ex 32), He.eqO_ok (c.ex 33), He.eqO_ok (c.ex 34), of_decide_eq_true (c.ex 35), He.eqO_ok (c.ex 36), by decide +kernel⟩, .all fun us hl => match us, hl with | [_, _], _ => rfl⟩
theorem m_l_turn (X : K.In h) (G : h.Ns mainGlobals mg) (c : SaysW w h K) (tb : ∀ q ∈ csW K, LamX.TabB base mg q.1 q.2) : LamF K mg base (tabsW K) "_law_turn" s_l_turn ["_law_m", "_law_book", "_law_hall_so", "_law_own"] := lamF_of c 37 rfl tb (p := ("_law_turn", none)) (by simp [tf]) (k_l_turn X G c) rfl (He.glo_ok X G (x := "_law_turn") (c.fa 40))
theorem m_l_inner (X : K.In h) (G : h.Ns mainGlobals mg) (c : SaysW w h K) (tb : ∀ q ∈ csW K, LamX.TabB base mg q.1 q.2) : LamF K mg base (tabsW K) "_law_inner" s_l_inner ["_law_m", "_law_led_so", "_law_held", "_law_hall_so", "_law_way"] := lamF_of c 37 rfl tb (p := ("_law_inner", none)) (by simp [tf]) (k_l_inner X G c) rfl (He.glo_ok X G (x := "_law_inner") (c.fa 43))
theorem m_l_tried (X : K.In h) (G : h.Ns mainGlobals mg) (c : SaysW w h K) (tb : ∀ q ∈ csW K, LamX.TabB base mg q.1 q.2) : LamF K mg base (tabsW K) "_law_tried" s_l_tried ["_law_m", "_law_book", "_law_hall_so", "_law_own", "_law_way"] := lamF_of c 37 rfl tb (p := ("_law_tried", none)) (by simp [tf]) (k_l_tried X G c) rfl (He.glo_ok X G (x := "_law_tried") (c.fa 44))
theorem m_law (X : K.In h) (G : h.Ns mainGlobals mg) (c : SaysW w h K) (tb : ∀ q ∈ csW K, LamX.TabB base mg q.1 q.2) : LamF K mg base (tabsW K) "law" s_law ["_law_script"] := lamF_of c 37 rfl tb (p := ("law", none)) (by simp [tf]) (k_law X G c) rfl (He.glo_ok X G (x := "law") (c.fa 46))
theorem law_fn (X : K.In h) (G : h.Ns mainGlobals mg) (c : SaysW w h K) (tb : ∀ q ∈ csW K, LamX.TabB base mg q.1 q.2) : EFn PW w K mg base 24 "law" (spLaw K (tabsW K)) := by
  have tx := k_tx X G c
  have BB := k_book X G c
  have BT := k_trial X G c
  have EF := k_eq c
  have SF := k_said X G c
  obtain ⟨fdI, BF, bdI⟩ := k_bad X G c
  have u_whole := f_whole (P := PW) (w := w) (base := base) tx (k_is_whole X G c)
  have u_hall := f_need_hall tx (k_need_hall X G c) u_whole
  have u_limits := f_are_limits tx (k_are_limits X G c) u_whole
  have u_plain := f_is_plain tx (k_is_plain X G c) u_limits
  have u_word := f_is_word tx (k_is_word X G c) u_whole u_plain
  have u_parts := f_parts_of (P := PW) (w := w) (base := base) tx (k_parts_of X G c)
  have u_rule := f_need_rule tx (k_need_rule X G c) u_hall u_word u_parts
  have u_letsp := f_lets_plain (P := PW) (w := w) (base := base) tx (k_lets_plain X G c)
  have u_lets := f_lets_of tx (k_lets_of X G c) u_letsp 3
  have u_none := f_none_of (P := PW) (w := w) (base := base) tx (k_none_of X G c)
  have u_more := f_with_more (P := PW) (w := w) (base := base) tx (k_with_more X G c)
  have u_cheap := f_cheapest_sold (P := PW) (w := w) (base := base) tx (k_cheapest_sold X G c)
  have u_step := f_step_of tx (k_step_of X G c) u_lets u_more u_cheap
  have u_seenw := f_seen_with tx (k_seen_with X G c) u_more u_cheap
  have u_needc := f_need_calls tx (k_need_calls X G c) u_whole
  have u_seeno := f_seen_of tx (k_seen_of X G c) u_none u_seenw
  have u_seen := f_seen tx (k_seen X G c) u_hall u_needc u_seeno
  have u_worth := f_worth_of (P := PW) (w := w) (base := base) tx (k_worth_of X G c)
  have u_hind := f_hindsight tx (k_hindsight X G c) u_worth u_seen
  have l_mixed := f_l_mixed (P := PW) (w := w) (base := base) tx (k_l_mixed X G c)
  have l_draw := f_l_draw (T := tabsW K) tx (k_l_draw X G c) l_mixed
  have l_folded := f_l_folded (P := PW) (w := w) (base := base) tx (k_l_folded X G c)
  have l_begun := f_l_begun tx (k_l_begun X G c) l_folded
  have l_of := f_l_of tx (k_l_of X G c) l_draw
  have l_fares := f_l_fares tx (k_l_fares X G c) l_draw
  have l_hall := f_l_hall tx (k_l_hall X G c) l_draw l_fares
  have l_plain := f_l_plain tx (k_l_plain X G c) l_draw l_of
  have l_rule := f_l_rule tx (k_l_rule X G c) l_draw l_of l_plain
  have l_lets := f_l_lets (P := PW) (w := w) (base := base) tx (k_l_lets X G c) 3
  have l_more := f_l_more (P := PW) (w := w) (base := base) tx (k_l_more X G c)
  have l_deal := f_l_deal tx (k_l_deal X G c) l_lets l_more
  have l_worth := f_l_worth (P := PW) (w := w) (base := base) tx (k_l_worth X G c)
  have l_best := f_l_best (P := PW) (w := w) (base := base) tx (k_l_best X G c)
  have l_like := f_l_like (P := PW) (w := w) (base := base) tx (k_l_like X G c)
  have l_begin := f_l_begin_book (P := PW) (w := w) (base := base) tx (k_l_begin_book X G c)
  have l_keep := f_l_keep (P := PW) (w := w) (base := base) (T := tabsW K) tx (k_l_keep X G c)
  have l_calls := f_l_calls_in (P := PW) (w := w) (base := base) tx (k_l_calls_in X G c)
  have l_twin := f_l_twin_of (P := PW) (w := w) (base := base) tx (k_l_twin_of X G c)
  have l_stands := f_l_stands tx BB (k_l_stands X G c) l_calls l_worth l_best l_like u_worth u_hind
  have l_turn := f_l_turn tx BB BF bdI SF (m_l_turn X G c tb) (k_l_said X G c) l_draw l_deal l_keep l_like l_more l_rule u_whole u_step u_more u_rule
  have l_led := f_l_led tx (k_l_led X G c) l_turn l_stands
  have l_inner := f_inner tx BB BT (m_l_inner X G c tb) (k_under X G c) l_led l_stands l_twin
  have l_innerX := f_innerX tx BB BF bdI (k_l_inner X G c) l_led l_stands u_whole
  have l_tried := f_tried tx BB BT BF SF (m_l_tried X G c tb) (k_under X G c) l_inner l_innerX l_stands l_twin
  have l_back := f_back_right (T := tabsW K) tx BB (k_l_back_right X G c) l_stands
  exact f_law ⟨tx, BB, BT, EF, k_under X G c, l_begun, l_hall, l_rule, l_draw, l_begin, l_led, l_tried, l_twin, l_stands, l_back, l_like, u_rule, u_none, u_whole, u_step, u_more⟩ (m_law X G c tb)
theorem law_at (X : K.In h) (G : h.Ns mainGlobals mg) (c : SaysW w h K) : LawG PW w 63 24 "law" mg h := by
  refine ⟨K, csW K, spLaw K (tabsW K), X, fun q hq => ?_, fun q hq => ?_, fun q hq => ?_, fun H a ns hn hT hS => ⟨a, ns, rfl, hS, hn, fun p hp => ?_, fun _ => rfl⟩, fun bs _ _ tb => law_fn X G c tb⟩
  · obtain ⟨p, hp, rfl⟩ := List.mem_map.mp hq
    exact c.empty p hp
  · obtain ⟨p, hp, rfl⟩ := List.mem_map.mp hq
    exact c.out p hp
  · obtain ⟨p, hp, rfl⟩ := List.mem_map.mp hq
    exact c.hd p hp
  · obtain ⟨p', hp', rfl⟩ := List.mem_map.mp hp
    exact .nil (hT (He.cT K p') (List.mem_map_of_mem hp'))

end
end BL
end

section
set_option Elab.async false
set_option linter.all false
set_option maxRecDepth 100000
set_option maxHeartbeats 0
/-! BNl: the run of the top, looked at. -/
namespace BL
open PySem PySem.W PySem.Calls PyProof.Rows
abbrev RW : OpenRow := OpenLaw.row PySem.Challenge.rw_booklimits_k93_whole_trials_and_copies
abbrev qW : Program := view RW.prog [84]
def looseW : List PySem.Str := (["__name__", "CallError", "BadHall", "BadRule", "BadCall", "BadPaper", "BadNumber", "BadPlan", "BadShare", "BadLog", "BadText", "TooGreat", "MOST_SEATS", "MOST_FARES", "MOST_FARE", "MOST_FEE", "MOST_WORDS", "MOST_DEEP", "APART", "NESTED", "KEPT", "ALL", "ANY", "OUST", "is_whole", "need_hall", "are_limits", "is_plain", "is_word", "parts_of"] : List PySem.Str) ++ (["need_rule", "lets_plain", "lets_of", "MOST_CALLS", "TAKEN", "OUSTED", "REFUSED", "none_of", "with_more", "cheapest_sold", "step_of", "seen_with", "need_calls", "seen_of", "seen", "worth_of", "hindsight", "MOST_DEEDS", "CALL", "GIVE", "CHANGE", "under", "Trial", "Book", "_law_mixed", "_law_folded", "_law_draw", "_law_begun", "_law_like", "_law_of"] : List PySem.Str) ++ (["_law_fares", "_law_hall", "_law_plain", "_law_rule", "_law_lets", "_law_more", "_law_deal", "_law_worth", "_law_best", "_law_said", "_law_begin_book", "_law_calls_in", "_law_stands", "_law_keep", "_law_turn", "_law_led", "_law_twin_of", "_law_inner", "_law_tried", "_law_back_right"] : List PySem.Str)
def obT (s : SharedT) : AlW := obsW (HandSHeadRun.getT s)
theorem obT_eq (s : SharedT) : obT s = hookW.obs s.abs := obsW_eq (HandSHeadRun.getT_eq s)
theorem runW (w : World) : HandSHeadRun.RunEq RW qW hookW obT 20000 looseW w := by
  intro os
  kernel_rfl
end BL
end

section
set_option Elab.async false
set_option linter.all false
set_option maxRecDepth 100000
set_option maxHeartbeats 0
/-! BNm: the law. -/
open PySem PySem.W PySem.Calls PyProof.Rows
theorem PySem.Challenge.cw_booklimits_k93_whole_trials_and_copies_holds : PySem.Challenge.rw_booklimits_k93_whole_trials_and_copies.Holds := by
  w_on; o_law
  refine HandSHeadRun.head_any (r := BL.RW) (q := BL.qW) (H := BL.hookW) (ob := BL.obT) (M := 20000) (loose := BL.looseW) (d := HandSHeadRun.topDef BL.RW.prog 84) (kwd := []) BL.obT_eq
    (by kernel_rfl) (fun s => by kernel_rfl) BL.runW (by kernel_rfl) (by kernel_rfl) (by kernel_rfl) (by rfl) (by first | assumption | decide +kernel) (by decide +kernel) ⟨rfl, rfl, rfl, rfl, rfl, by decide +kernel⟩ ?hw ?hc
  case hw => w_witness2
  case hc =>
    refine BL.walkG (l := PySem.Challenge.rw_booklimits_k93_whole_trials_and_copies) (n := 63) (k := 24) rfl (by decide) (by kernel_rfl) ⟨rfl, by decide, by decide⟩ ?F
    intro w mg h Y G
    obtain ⟨K, KX, c⟩ := Y
    have e : (HandSHeadRun.topDef BL.RW.prog 84).name = ("law" : PySem.Str) := by kernel_rfl
    rw [e]
    exact BL.law_at KX G c
end
