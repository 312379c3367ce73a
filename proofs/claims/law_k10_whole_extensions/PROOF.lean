import PyProof.Rows.All
import Wide.All
import OpenK.AllK
import Wide.FinOn
import HandS.ForMost
import HandS.ForExc
import HandS.Lambda
import HandS.EndTab
import HandS.IsInst
import HandS.Gcd
import HandS.TupLe
import HandS.TupAny
import HandS.TupSets
import HandS.Zip
import HandS.Conv
import HandS.Walk
import HandS.Wide
import HandS.Small
import KE.GoesMore
import KE.GoesEnum
import PySem.Challenge.RW_littowers_k10_whole_extensions
set_option Elab.async false
set_option linter.all false
set_option maxRecDepth 100000
set_option maxHeartbeats 4000000
/-! The calculus of this claim: WE, WT, WS are the machine's own weakest preconditions; YE says that an expression evaluates to data. -/
namespace K10
open PySem PySem.Spec PyProof.Rows L2

/-! ### data in an abstract heap -/
section
variable {K : PySem.W.Frag} {H H' : Hp}
theorem sqL_at {a : Addr} {xs : List V} (e : ∀ o, H a = some o → H' a = some o) (h : SqL K H a xs) : SqL K H' a xs := by
  rcases h with (h | ⟨o, h⟩) | h
  · exact .inl (.inl (e _ h))
  · exact .inl (.inr ⟨o, e _ h⟩)
  · exact .inr h
theorem sqT_at {a : Addr} {xs : List V} (e : ∀ o, H a = some o → H' a = some o) (h : SqT K H a xs) : SqT K H' a xs := by
  rcases h with (h | ⟨o, h⟩) | h
  · exact .inl (.inl (e _ h))
  · exact .inl (.inr ⟨o, e _ h⟩)
  · exact .inr h
mutual
theorem dp_ext (e : Same H H') : ∀ (d : PyData) (v : V), Dp K H v d → Dp K H' v d
  | .none, _, h => by cases h; exact .non
  | .bool b, _, h => by cases h; exact .bl b
  | .int i, _, h => by cases h; exact .int i
  | .str x, _, h => by cases h; exact .str x
  | .list ds, _, h => by
    cases h with
    | lst hs ha => exact .lst (sqL_at (e _) hs) (dpA_ext e ds _ ha)
  | .tuple ds, _, h => by
    cases h with
    | tup hs ha => exact .tup (sqT_at (e _) hs) (dpA_ext e ds _ ha)
  | .dict _, _, h => by cases h
theorem dpA_ext (e : Same H H') : ∀ (ds : List PyData) (vs : List V), DpAll K H vs ds → DpAll K H' vs ds
  | [], _, h => by cases h; exact .nil
  | d :: ds, _, h => by
    cases h with
    | cons h1 h2 => exact .cons (dp_ext e d _ h1) (dpA_ext e ds _ h2)
end
theorem Dpx {v : V} {d : PyData} (h : Dp K H v d) (e : Same H H') : Dp K H' v d := dp_ext e d v h
theorem DpAx {vs : List V} {ds : List PyData} (h : DpAll K H vs ds) (e : Same H H') : DpAll K H' vs ds := dpA_ext e ds vs h
theorem dpA_len : ∀ {ds : List PyData} {vs : List V}, DpAll K H vs ds → vs.length = ds.length
  | [], _, h => by cases h; rfl
  | d :: ds, _, h => by
    cases h with
    | cons h1 h2 => rw [List.length_cons, List.length_cons, dpA_len h2]
theorem dpA_get : ∀ {ds : List PyData} {vs : List V} {i : Nat} {d : PyData}, DpAll K H vs ds → ds[i]? = some d → ∃ v, vs[i]? = some v ∧ Dp K H v d
  | [], _, _, _, _, e => by simp at e
  | d :: ds, _, 0, _, h, e => by
    cases h with
    | cons h1 h2 =>
      cases (Option.some.inj e : d = _)
      exact ⟨_, rfl, h1⟩
  | d :: ds, _, i + 1, x, h, e => by
    cases h with
    | cons h1 h2 =>
      obtain ⟨v, e1, e2⟩ := dpA_get (i := i) (d := x) h2 (by simpa using e)
      exact ⟨v, by simpa using e1, e2⟩
theorem dpA_at : ∀ {ds : List PyData} {vs : List V} {i : Nat} {v : V}, DpAll K H vs ds → vs[i]? = some v → ∃ d, ds[i]? = some d ∧ Dp K H v d
  | [], _, _, _, h, e => by cases h; simp at e
  | d :: ds, _, 0, v, h, e => by
    cases h with
    | cons h1 h2 =>
      cases (Option.some.inj e : _ = v)
      exact ⟨_, rfl, h1⟩
  | d :: ds, _, i + 1, x, h, e => by
    cases h with
    | cons h1 h2 =>
      obtain ⟨v, e1, e2⟩ := dpA_at (i := i) (v := x) h2 (by simpa using e)
      exact ⟨v, by simpa using e1, e2⟩
theorem dpA_app : ∀ {ds es : List PyData} {vs us : List V}, DpAll K H vs ds → DpAll K H us es → DpAll K H (vs ++ us) (ds ++ es)
  | [], _, _, _, h, g => by cases h; exact g
  | d :: ds, es, _, us, h, g => by
    cases h with
    | cons h1 h2 => exact .cons h1 (dpA_app h2 g)
theorem dpA_one {v : V} {d : PyData} (h : Dp K H v d) : DpAll K H [v] [d] := .cons h .nil
theorem dp_int {v : V} {i : Int} (h : Dp K H v (.int i)) : v = .int i := by cases h; rfl
theorem dp_bl {v : V} {b : Bool} (h : Dp K H v (.bool b)) : v = .bl b := by cases h; rfl
theorem dp_non {v : V} (h : Dp K H v .none) : v = .non := by cases h; rfl
theorem dp_str {v : V} {x : Str} (h : Dp K H v (.str x)) : v = .str x := by cases h; rfl
theorem dp_lst {v : V} {ds : List PyData} (h : Dp K H v (.list ds)) : ∃ a xs, v = .ref a ∧ SqL K H a xs ∧ DpAll K H xs ds := by
  cases h with
  | lst h1 h2 => exact ⟨_, _, rfl, h1, h2⟩
theorem dp_tup {v : V} {ds : List PyData} (h : Dp K H v (.tuple ds)) : ∃ a xs, v = .ref a ∧ SqT K H a xs ∧ DpAll K H xs ds := by
  cases h with
  | tup h1 h2 => exact ⟨_, _, rfl, h1, h2⟩
theorem dpA_ints : ∀ {ns : List Int} {vs : List V}, DpAll K H vs (ns.map PyData.int) → vs = ns.map V.int
  | [], _, h => by cases h; rfl
  | n :: ns, _, h => by
    cases h with
    | cons h1 h2 => rw [dp_int h1, dpA_ints h2]; rfl
theorem dpA_bls : ∀ {ns : List Bool} {vs : List V}, DpAll K H vs (ns.map PyData.bool) → vs = ns.map V.bl
  | [], _, h => by cases h; rfl
  | n :: ns, _, h => by
    cases h with
    | cons h1 h2 => rw [dp_bl h1, dpA_bls h2]; rfl
theorem ints_dpA : ∀ (ns : List Int), DpAll K H (ns.map V.int) (ns.map PyData.int)
  | [] => .nil
  | n :: ns => .cons (.int n) (ints_dpA ns)
theorem sqT_of {p : Addr} {xs : List V} (h : H p = some (.tup xs)) : SqT K H p xs := .inl (.inl h)
theorem sqL_of {p : Addr} {xs : List V} (h : H p = some (.lst xs)) : SqL K H p xs := .inl (.inl h)
theorem same_new {p : Addr} {o : HO} (h : H p = none) : Same H (upd H p o) := fun a u e => by
  rw [upd_ne (ne_of_none e h)]
  exact e
/-- an object that H does not know may change -/
theorem same_mut {p : Addr} {o : HO} (e : Same H H') (h : H p = none) : Same H (upd H' p o) := fun a u ha => by
  rw [upd_ne (ne_of_none ha h)]
  exact e a u ha
end

/-! ### weakest preconditions -/
section
variable {X : Cx}
def WE (X : Cx) (e : Expr) : TE := fun σ H Q => ∀ (pins : List (Addr × Obj)) (s : Shared), Inv X pins σ H s → wpAny (model X.prog X.w) X.A (eval e X.env) (EP X pins σ Q) X.xe s
def WT (X : Cx) (e : Expr) : TT := fun σ H Q => ∀ (pins : List (Addr × Obj)) (s : Shared), Inv X pins σ H s → wpAny (model X.prog X.w) X.A (isTrue e X.env (eval e X.env)) (TP X pins σ Q) X.xe s
def WW (X : Cx) (e : Expr) : TT := fun σ H Q => ∀ (whole : Sem Value) (pins : List (Addr × Obj)) (s : Shared), Inv X pins σ H s → wpAny (model X.prog X.w) X.A (isTrue e X.env whole) (TP X pins σ Q) X.xe s
def WA (X : Cx) (es : List Expr) : TA := fun σ H Q => ∀ (pos : Pos) (pins : List (Addr × Obj)) (s : Shared), Inv X pins σ H s → wpAny (model X.prog X.w) X.A (spliced (backTo pos (starEach es X.env))) (AP X pins σ Q) X.xe s
def WS (X : Cx) (st : Stmt) : TS := fun D σ H => ∀ (pins : List (Addr × Obj)) (s : Shared), Inv X pins σ H s → wpAny (model X.prog X.w) X.A (exec st X.env) (SP X pins D) X.xe s
def WSs (X : Cx) (st : List Stmt) : TS := fun D σ H => ∀ (pins : List (Addr × Obj)) (s : Shared), Inv X pins σ H s → wpAny (model X.prog X.w) X.A (execs st X.env) (SP X pins D) X.xe s
def WG (X : Cx) (tg : Expr) : TG := fun v σ H Q => ∀ (pins : List (Addr × Obj)) (s : Shared) (u : Value), Inv X pins σ H s → RelV v u → wpAny (model X.prog X.w) X.A (assign tg X.env u) (fun _ s' => ∃ σ' H', Inv X pins σ' H' s' ∧ Q σ' H') X.xe s
theorem pe_we {e : Expr} : PE X e (WE X e) := ⟨fun pins s _ _ _ I h => h pins s I⟩
theorem pt_wt {e : Expr} : PT X e (WT X e) := ⟨fun pins s _ _ _ I h => h pins s I⟩
theorem pw_ww {e : Expr} : PW X e (WW X e) := ⟨fun wh pins s _ _ _ I h => h wh pins s I⟩
theorem pa_wa {es : List Expr} : PA X es (WA X es) := ⟨fun pos pins s _ _ _ I h => h pos pins s I⟩
theorem ps_ws {st : Stmt} : PS X st (WS X st) := ⟨fun pins s _ _ _ I h => h pins s I⟩
theorem pss_ws {st : List Stmt} : PSs X st (WSs X st) := ⟨fun pins s _ _ _ I h => h pins s I⟩
theorem pg_wg {tg : Expr} : PG X tg (WG X tg) := ⟨fun pins s _ _ _ u _ I r h => h pins s u I r⟩
theorem go_e {e : Expr} {t : TE} {σ : L2.St} {H : Hp} {Q : VK} (h : PE X e t) (q : t σ H Q) : WE X e σ H Q := fun pins s I => h.run pins s σ H Q I q
theorem go_t {e : Expr} {t : TT} {σ : L2.St} {H : Hp} {Q : Bool → Hp → Prop} (h : PT X e t) (q : t σ H Q) : WT X e σ H Q := fun pins s I => h.run pins s σ H Q I q
theorem go_w {e : Expr} {t : TT} {σ : L2.St} {H : Hp} {Q : Bool → Hp → Prop} (h : PW X e t) (q : t σ H Q) : WW X e σ H Q := fun wh pins s I => h.run wh pins s σ H Q I q
theorem go_a {es : List Expr} {t : TA} {σ : L2.St} {H : Hp} {Q : List V → Hp → Prop} (h : PA X es t) (q : t σ H Q) : WA X es σ H Q := fun pos pins s I => h.run pos pins s σ H Q I q
theorem go_s {st : Stmt} {t : TS} {D : Ends} {σ : L2.St} {H : Hp} (h : PS X st t) (q : t D σ H) : WS X st D σ H := fun pins s I => h.run pins s σ H D I q
theorem go_ss {st : List Stmt} {t : TS} {D : Ends} {σ : L2.St} {H : Hp} (h : PSs X st t) (q : t D σ H) : WSs X st D σ H := fun pins s I => h.run pins s σ H D I q
theorem go_g {tg : Expr} {t : TG} {v : V} {σ : L2.St} {H : Hp} {Q : L2.St → Hp → Prop} (h : PG X tg t) (q : t v σ H Q) : WG X tg v σ H Q := fun pins s u I r => h.run pins s σ H v u Q I r q
end

/-! ### what is known (F) within what stands (H): both extended, the new things known are new -/
structure Nw (F H F' H' : Hp) : Prop where
  h : Same H H'
  f : Same F F'
  i : Same F' H'
  n : ∀ b, F' b ≠ none → F b ≠ none ∨ H b = none
/-- two parts of one heap -/
def jn (F G : Hp) : Hp := fun b => match F b with
  | some o => some o
  | none => G b
section
variable {F F1 F2 F' H H1 H2 H' G : Hp}
theorem jn_l : Same F (jn F G) := fun b o e => by unfold jn; rw [e]
theorem jn_r (a : Same F H) (c : Same G H) : Same G (jn F G) := fun b o e => by
  unfold jn
  cases q : F b with
  | none => exact e
  | some u =>
    have e1 := a b u q
    rw [c b o e] at e1
    exact e1.symm
theorem jn_in (a : Same F H) (c : Same G H) : Same (jn F G) H := fun b o e => by
  unfold jn at e
  cases q : F b with
  | none => rw [q] at e; exact c b o e
  | some u => rw [q] at e; cases e; exact a b _ q
theorem Nw.refl (s : Same F H) : Nw F H F H := ⟨Same.refl _, Same.refl _, s, fun _ h => .inl h⟩
theorem Nw.trans (a : Nw F H F1 H1) (c : Nw F1 H1 F2 H2) : Nw F H F2 H2 := ⟨a.h.trans c.h, a.f.trans c.f, c.i, fun b q => by
  rcases c.n b q with z | z
  · exact a.n b z
  · exact .inr (a.h.free z)⟩
/-- only what stands grows -/
theorem Nw.hop (s : Same F H) (e : Same H H') : Nw F H F H' := ⟨e, Same.refl _, s.trans e, fun _ h => .inl h⟩
theorem Nw.up (s : Same F F1) (i : Same F1 H) (a : Nw F H F' H') : Nw F1 H (jn F1 F') H' ∧ Same F' (jn F1 F') := by
  have i1 : Same F1 H' := i.trans a.h
  refine ⟨⟨a.h, jn_l, jn_in i1 a.i, fun b q => ?_⟩, jn_r i1 a.i⟩
  cases e : F1 b with
  | some o => exact .inl (fun z => nomatch z)
  | none =>
    have e2 : F' b ≠ none := by
      unfold jn at q
      rw [e] at q
      exact q
    rcases a.n b e2 with z | z
    · cases e3 : F b with
      | none => exact absurd e3 z
      | some o =>
        rw [s b o e3] at e
        cases e
    · exact .inr z
/-- what is not known stays unknown -/
theorem Nw.out (a : Nw F H F' H') {p : Addr} (e : F p = none) (q : H p ≠ none) : F' p = none := by
  cases z : F' p with
  | none => rfl
  | some o =>
    rcases a.n p (by rw [z]; exact fun y => nomatch y) with y | y
    · exact absurd e y
    · exact absurd y q
/-- a new object is laid and known -/
theorem Nw.put {p : Addr} {o : HO} (s : Same F H) (hp : H p = none) : Nw F H (upd F p o) (upd H p o) := by
  have fp : F p = none := s.free hp
  refine ⟨same_new hp, same_new fp, fun b u e => ?_, fun b q => ?_⟩
  · by_cases hb : b = p
    · subst hb
      rw [upd_same] at e ⊢
      exact e
    · rw [upd_ne hb] at e ⊢
      exact s b u e
  · by_cases hb : b = p
    · subst hb
      exact .inr hp
    · rw [upd_ne hb] at q
      exact .inl q
/-- a new object that stands becomes known -/
theorem Nw.learn {p : Addr} {o : HO} (a : Nw F H F' H') (hp : H p = none) (e : H' p = some o) (fp : F' p = none) : Nw F H (upd F' p o) H' := by
  refine ⟨a.h, a.f.trans (same_new fp), fun b u q => ?_, fun b q => ?_⟩
  · by_cases hb : b = p
    · subst hb
      rw [upd_same] at q
      rw [e]
      exact q
    · rw [upd_ne hb] at q
      exact a.i b u q
  · by_cases hb : b = p
    · subst hb
      exact .inr hp
    · rw [upd_ne hb] at q
      exact a.n b q
end

/-! ### expressions that evaluate to data, the heap extended at most -/
section
variable {X : Cx} {σ : L2.St} {F F' : Hp} {d d1 d2 d3 : PyData} {ds es' : List PyData} {v : V} {pos : Pos} {a b c e : Expr} {es rest : List Expr} {k k1 k2 : Bool}
def YE (X : Cx) (e : Expr) (σ : L2.St) (F : Hp) (d : PyData) : Prop := ∀ H, Same F H → ∀ Q : VK, (∀ v F' H', Nw F H F' H' → Dp X.K F' v d → Q v H') → WE X e σ H Q
def YA (X : Cx) (es : List Expr) (σ : L2.St) (F : Hp) (ds : List PyData) : Prop := ∀ H, Same F H → ∀ Q : List V → Hp → Prop, (∀ vs F' H', Nw F H F' H' → DpAll X.K F' vs ds → Q vs H') → WA X es σ H Q
def YT (X : Cx) (e : Expr) (σ : L2.St) (F : Hp) (k : Bool) : Prop := ∀ H, Same F H → ∀ Q : Bool → Hp → Prop, (∀ H', Same H H' → Q k H') → WT X e σ H Q
def YW (X : Cx) (e : Expr) (σ : L2.St) (F : Hp) (k : Bool) : Prop := ∀ H, Same F H → ∀ Q : Bool → Hp → Prop, (∀ H', Same H H' → Q k H') → WW X e σ H Q
/-- a new list, not known itself -/
def YL (X : Cx) (e : Expr) (σ : L2.St) (F : Hp) (ds : List PyData) : Prop := ∀ H, Same F H → ∀ Q : VK, (∀ p xs F' H', Nw F H F' H' → H p = none → F' p = none → H' p = some (.lst xs) → DpAll X.K F' xs ds → Q (.ref p) H') → WE X e σ H Q
theorem YE.mono (h : YE X e σ F d) (s : Same F F') : YE X e σ F' d := fun H i Q q => h H (s.trans i) Q fun v G H' n dv => by
  obtain ⟨n1, s1⟩ := n.up s i
  exact q v _ H' n1 (Dpx dv s1)
theorem YA.mono (h : YA X es σ F ds) (s : Same F F') : YA X es σ F' ds := fun H i Q q => h H (s.trans i) Q fun v G H' n dv => by
  obtain ⟨n1, s1⟩ := n.up s i
  exact q v _ H' n1 (DpAx dv s1)
theorem YT.mono (h : YT X e σ F k) (s : Same F F') : YT X e σ F' k := fun H1 s1 Q q => h H1 (s.trans s1) Q q
theorem YW.mono (h : YW X e σ F k) (s : Same F F') : YW X e σ F' k := fun H1 s1 Q q => h H1 (s.trans s1) Q q
theorem YL.mono (h : YL X e σ F ds) (s : Same F F') : YL X e σ F' ds := fun H i Q q => h H (s.trans i) Q fun p xs G H' n hp gp ep dv => by
  obtain ⟨n1, s1⟩ := n.up s i
  refine q p xs _ H' n1 hp ?_ ep (DpAx dv s1)
  unfold jn
  rw [i.free hp]
  exact gp
theorem YL.ye (h : YL X e σ F ds) : YE X e σ F (.list ds) := fun H i Q q => h H i Q fun p xs G H' n hp gp ep dv =>
  q _ _ H' (n.learn hp ep gp) (.lst (sqL_of upd_same) (DpAx dv (same_new gp)))
theorem YE.is (h : YE X e σ F d) (q : d = d1) : YE X e σ F d1 := q ▸ h
theorem YT.is (h : YT X e σ F k) (q : k = k1) : YT X e σ F k1 := q ▸ h
theorem YL.is (h : YL X e σ F ds) (q : ds = es') : YL X e σ F es' := q ▸ h

/-- a name in a slot -/
theorem yv (i : Nat) {x : Str} (hd : Dp X.K F v d) (h : σ[i]? = some (some v) := by rfl) (hN : X.N[i]? = some x := by rfl) (hv : Vis X.env.scope x := by first | exact Or.inl rfl | exact Or.inr (Or.inl rfl) | exact Or.inr (Or.inr rfl))
    (hdb : (x == ("__debug__" : Str)) = false := by decide) (hcd : (x == ("__classdict__" : Str)) = false := by decide) : YE X (.Name x pos) σ F d := fun H s Q q =>
  go_e (pe_var hN hv hdb hcd) ⟨v, h, q v F H (Nw.refl s) hd⟩
theorem ye_int {i : Int} {j : Nat} : YE X (.Constant (.int i) j pos) σ F (.int i) := fun H s Q q => go_e pe_int (q (.int i) F H (Nw.refl s) (.int i))
theorem ye_bl {i : Bool} {j : Nat} : YE X (.Constant (.bool i) j pos) σ F (.bool i) := fun H s Q q => go_e pe_bl (q (.bl i) F H (Nw.refl s) (.bl i))
theorem ye_non {j : Nat} : YE X (.Constant .none j pos) σ F .none := fun H s Q q => go_e pe_non (q .non F H (Nw.refl s) .non)
theorem ye_str {x : Str} {j : Nat} : YE X (.Constant (.str x) j pos) σ F (.str x) := fun H s Q q => go_e pe_str (q (.str x) F H (Nw.refl s) (.str x))
/-- a module's int -/
theorem ye_globI {x : Str} {i : Int} {u : Value} (hm : X.mg x = some u) (r : RelV (.int i) u) (hg : Gl X x := by rfl) (hdb : (x == ("__debug__" : Str)) = false := by decide) : YE X (.Name x pos) σ F (.int i) := fun H s Q q =>
  go_e (pe_glob hg hm r hdb) (q (.int i) F H (Nw.refl s) (.int i))

def OpD (X : Cx) (f : Value → Value → Sem Value) (d1 d2 d : PyData) : Prop :=
  ∃ r, OpR X f r ∧ ∀ (F H : Hp) (x y : V) (Q : VK), Same F H → Dp X.K F x d1 → Dp X.K F y d2 → (∀ v F' H', Nw F H F' H' → Dp X.K F' v d → Q v H') → r x y H Q
theorem ye_bin {op : Operator} (o : OpD X (binaryOp op) d1 d2 d) (ha : YE X a σ F d1) (hb : YE X b σ F d2) : YE X (.BinOp a op b pos) σ F d := fun H s Q q => by
  obtain ⟨r, ho, hr⟩ := o
  exact go_e (pe_op ho pe_we pe_we) (ha H s _ fun x F2 H2 n2 dx => hb.mono n2.f H2 n2.i _ fun y F3 H3 n3 dy => hr F3 H3 x y Q n3.i (Dpx dx n3.f) dy fun v F4 H4 n4 dv => q v F4 H4 ((n2.trans n3).trans n4) dv)
theorem ye_cmp {op : CmpOp} (o : OpD X (compareOp op) d1 d2 d) (ha : YE X a σ F d1) (hb : YE X b σ F d2) (hm : behindInMarks op b = false := by first | exact nomark _ | rfl | with_unfolding_all rfl) : YE X (.Compare a [op] [b] pos) σ F d := fun H s Q q => by
  obtain ⟨r, ho, hr⟩ := o
  exact go_e (pe_cmpR ho pe_we pe_we hm) (ha H s _ fun x F2 H2 n2 dx => hb.mono n2.f H2 n2.i _ fun y F3 H3 n3 dy => hr F3 H3 x y Q n3.i (Dpx dx n3.f) dy fun v F4 H4 n4 dv => q v F4 H4 ((n2.trans n3).trans n4) dv)
theorem yt_cmp {op : CmpOp} (o : OpD X (compareOp op) d1 d2 (.bool k)) (ha : YE X a σ F d1) (hb : YE X b σ F d2) (hm : behindInMarks op b = false := by first | exact nomark _ | rfl | with_unfolding_all rfl) : YT X (.Compare a [op] [b] pos) σ F k := fun H s Q q => by
  obtain ⟨r, ho, hr⟩ := o
  refine go_t (pt_cmpR ho pe_we pe_we hm) (ha H s _ fun x F2 H2 n2 dx => hb.mono n2.f H2 n2.i _ fun y F3 H3 n3 dy => hr F3 H3 x y _ n3.i (Dpx dx n3.f) dy fun v F4 H4 n4 dv => ?_)
  exact ⟨k, dp_bl dv, q H4 ((n2.trans n3).trans n4).h⟩
theorem od_add {i j : Int} : OpD X (binaryOp .Add) (.int i) (.int j) (.int (i + j)) := ⟨_, op_add, fun F H x y Q s dx dy q => by
  cases dx; cases dy
  exact ⟨i, j, rfl, rfl, q _ F H (Nw.refl s) (.int _)⟩⟩
theorem od_sub {i j : Int} : OpD X (binaryOp .Sub) (.int i) (.int j) (.int (i - j)) := ⟨_, op_sub, fun F H x y Q s dx dy q => by
  cases dx; cases dy
  exact ⟨i, j, rfl, rfl, q _ F H (Nw.refl s) (.int _)⟩⟩
theorem od_mod {i j : Int} (h : 0 < j) : OpD X (binaryOp .Mod) (.int i) (.int j) (.int (i % j)) := ⟨_, op_mod, fun F H x y Q s dx dy q => by
  cases dx; cases dy
  exact ⟨i, j, rfl, rfl, h, q _ F H (Nw.refl s) (.int _)⟩⟩
theorem od_mulR {i j : Int} (h : -(2 ^ 64) < j ∧ j < 2 ^ 64) : OpD X (binaryOp .Mult) (.int i) (.int j) (.int (i * j)) := ⟨_, op_mul, fun F H x y Q s dx dy q => by
  cases dx; cases dy
  exact ⟨i, j, rfl, rfl, .inr h, q _ F H (Nw.refl s) (.int _)⟩⟩
theorem od_fdiv {i j : Int} (h0 : 0 < j) (h1 : j < 1073741824) : OpD X (binaryOp .FloorDiv) (.int i) (.int j) (.int (i / j)) := ⟨_, op_fdiv, fun F H x y Q s dx dy q => by
  cases dx; cases dy
  exact ⟨i, j, rfl, rfl, ⟨h0, h1⟩, q _ F H (Nw.refl s) (.int _)⟩⟩
theorem od_pow {i j : Int} (h : 0 ≤ j ∧ j ≤ 1000000 ∧ i.natAbs < 2 ^ 64) : OpD X (binaryOp .Pow) (.int i) (.int j) (.int (i ^ j.toNat)) := ⟨_, op_pow, fun F H x y Q s dx dy q => by
  cases dx; cases dy
  exact ⟨i, j, rfl, rfl, h, q _ F H (Nw.refl s) (.int _)⟩⟩
theorem od_lt {i j : Int} : OpD X (compareOp .Lt) (.int i) (.int j) (.bool (decide (i < j))) := ⟨_, op_lt, fun F H x y Q s dx dy q => by
  cases dx; cases dy
  exact ⟨i, j, rfl, rfl, q _ F H (Nw.refl s) (.bl _)⟩⟩
theorem od_le {i j : Int} : OpD X (compareOp .LtE) (.int i) (.int j) (.bool (decide (i ≤ j))) := ⟨_, op_le, fun F H x y Q s dx dy q => by
  cases dx; cases dy
  exact ⟨i, j, rfl, rfl, q _ F H (Nw.refl s) (.bl _)⟩⟩
theorem od_gt {i j : Int} : OpD X (compareOp .Gt) (.int i) (.int j) (.bool (decide (j < i))) := ⟨_, op_gt, fun F H x y Q s dx dy q => by
  cases dx; cases dy
  exact ⟨i, j, rfl, rfl, q _ F H (Nw.refl s) (.bl _)⟩⟩
theorem od_ge {i j : Int} : OpD X (compareOp .GtE) (.int i) (.int j) (.bool (decide (j ≤ i))) := ⟨_, op_ge, fun F H x y Q s dx dy q => by
  cases dx; cases dy
  exact ⟨i, j, rfl, rfl, q _ F H (Nw.refl s) (.bl _)⟩⟩
theorem dec_int (i j : Int) : decide (V.int i = V.int j) = decide (i = j) := by
  by_cases e : i = j
  · subst e; simp
  · rw [decide_eq_false e, decide_eq_false (fun z => e (V.int.inj z))]
theorem dec_bl (i j : Bool) : decide (V.bl i = V.bl j) = decide (i = j) := by
  by_cases e : i = j
  · subst e; simp
  · rw [decide_eq_false e, decide_eq_false (fun z => e (V.bl.inj z))]
theorem od_eqI {i j : Int} : OpD X (compareOp .Eq) (.int i) (.int j) (.bool (decide (i = j))) := ⟨_, op_eq, fun F H x y Q s dx dy q => by
  cases dx; cases dy
  exact ⟨rfl, by rw [dec_int]; exact q _ F H (Nw.refl s) (.bl _)⟩⟩
theorem od_neI {i j : Int} : OpD X (compareOp .NotEq) (.int i) (.int j) (.bool (!decide (i = j))) := ⟨_, op_ne, fun F H x y Q s dx dy q => by
  cases dx; cases dy
  exact ⟨rfl, by rw [dec_int]; exact q _ F H (Nw.refl s) (.bl _)⟩⟩
theorem od_eqB {i j : Bool} : OpD X (compareOp .Eq) (.bool i) (.bool j) (.bool (decide (i = j))) := ⟨_, op_eq, fun F H x y Q s dx dy q => by
  cases dx; cases dy
  exact ⟨rfl, by rw [dec_bl]; exact q _ F H (Nw.refl s) (.bl _)⟩⟩
theorem od_neB {i j : Bool} : OpD X (compareOp .NotEq) (.bool i) (.bool j) (.bool (!decide (i = j))) := ⟨_, op_ne, fun F H x y Q s dx dy q => by
  cases dx; cases dy
  exact ⟨rfl, by rw [dec_bl]; exact q _ F H (Nw.refl s) (.bl _)⟩⟩
theorem od_eqD (hu : X.A.units + 64 < cLine) (h1 : SeqAt.shaped d1 = true) (h2 : SeqAt.shaped d2 = true) : OpD X (compareOp .Eq) d1 d2 (.bool (PyData.eqv d1 d2)) := ⟨_, op_eqD hu, fun F H x y Q s dx dy q => ⟨d1, d2, Dpx dx s, Dpx dy s, h1, h2, q _ F H (Nw.refl s) (.bl _)⟩⟩
theorem od_neD (hu : X.A.units + 64 < cLine) (h1 : SeqAt.shaped d1 = true) (h2 : SeqAt.shaped d2 = true) : OpD X (compareOp .NotEq) d1 d2 (.bool (!PyData.eqv d1 d2)) := ⟨_, op_neD hu, fun F H x y Q s dx dy q => ⟨d1, d2, Dpx dx s, Dpx dy s, h1, h2, q _ F H (Nw.refl s) (.bl _)⟩⟩
def isNoneD : PyData → Bool
  | .none => true
  | _ => false
theorem dec_non {K : PySem.W.Frag} {v : V} (h : Dp K F v d) : decide (v = V.non) = isNoneD d := by
  cases h <;> rfl
theorem od_isN : OpD X (compareOp .Is) d .none (.bool (isNoneD d)) := ⟨_, op_isN, fun F H x y Q s dx dy q => by
  cases dy
  exact ⟨rfl, by rw [dec_non dx]; exact q _ F H (Nw.refl s) (.bl _)⟩⟩
theorem od_notN : OpD X (compareOp .IsNot) d .none (.bool (!isNoneD d)) := ⟨_, op_notN, fun F H x y Q s dx dy q => by
  cases dy
  exact ⟨rfl, by rw [dec_non dx]; exact q _ F H (Nw.refl s) (.bl _)⟩⟩

/-! chains -/
theorem ye_chain {op op' : CmpOp} (o1 : OpD X (compareOp op) d1 d2 (.bool k1)) (o2 : OpD X (compareOp op') d2 d3 (.bool k2)) (ha : YE X a σ F d1) (hb : YE X b σ F d2) (hc : k1 = true → YE X c σ F d3)
    (hm : lastMarks [op, op'] [b, c] = false := by with_unfolding_all rfl) : YE X (.Compare a [op, op'] [b, c] pos) σ F (.bool (k1 && k2)) := fun H s Q q => by
  obtain ⟨r, ho, hr⟩ := o1
  obtain ⟨r', ho', hr'⟩ := o2
  refine go_e (pe_chain ho ho' pe_we pe_we pe_we hm) (ha H s _ fun x F2 H2 n2 dx => hb.mono n2.f H2 n2.i _ fun y F3 H3 n3 dy => hr F3 H3 x y _ n3.i (Dpx dx n3.f) dy fun v F4 H4 n4 dv => ?_)
  refine ⟨k1, dp_bl dv, ?_⟩
  have n := (n2.trans n3).trans n4
  cases k1 with
  | true =>
    refine iteT ((hc rfl).mono n.f H4 n.i _ fun z F5 H5 n5 dz => hr' F5 H5 y z Q n5.i (Dpx dy (n4.f.trans n5.f)) dz fun w F6 H6 n6 dw => ?_)
    exact q w F6 H6 ((n.trans n5).trans n6) dw
  | false => exact iteF (q _ F4 H4 n (.bl false))
theorem yt_chain {op op' : CmpOp} (o1 : OpD X (compareOp op) d1 d2 (.bool k1)) (o2 : OpD X (compareOp op') d2 d3 (.bool k2)) (ha : YE X a σ F d1) (hb : YE X b σ F d2) (hc : k1 = true → YE X c σ F d3)
    (hm : lastMarks [op, op'] [b, c] = false := by with_unfolding_all rfl) : YT X (.Compare a [op, op'] [b, c] pos) σ F (k1 && k2) := fun H s Q q => by
  obtain ⟨r, ho, hr⟩ := o1
  obtain ⟨r', ho', hr'⟩ := o2
  refine go_t (pt_chain ho ho' pe_we pe_we pe_we hm) (ha H s _ fun x F2 H2 n2 dx => hb.mono n2.f H2 n2.i _ fun y F3 H3 n3 dy => hr F3 H3 x y _ n3.i (Dpx dx n3.f) dy fun v F4 H4 n4 dv => ?_)
  refine ⟨k1, dp_bl dv, ?_⟩
  have n := (n2.trans n3).trans n4
  cases k1 with
  | true =>
    refine iteT ((hc rfl).mono n.f H4 n.i _ fun z F5 H5 n5 dz => hr' F5 H5 y z _ n5.i (Dpx dy (n4.f.trans n5.f)) dz fun w F6 H6 n6 dw => ?_)
    exact ⟨k2, dp_bl dw, q H6 ((n.trans n5).trans n6).h⟩
  | false => exact iteF ⟨false, rfl, q H4 n.h⟩
/-- three comparisons in a row -/
theorem ye_chain3 {op op' op'' : CmpOp} {f : Expr} {d4 : PyData} {k3 : Bool} (o1 : OpD X (compareOp op) d1 d2 (.bool k1)) (o2 : OpD X (compareOp op') d2 d3 (.bool k2)) (o3 : OpD X (compareOp op'') d3 d4 (.bool k3)) (ha : YE X a σ F d1) (hb : YE X b σ F d2) (hc : YE X c σ F d3) (hf : YE X f σ F d4)
    (hm : lastMarks [op, op', op''] [b, c, f] = false := by with_unfolding_all rfl) : YE X (.Compare a [op, op', op''] [b, c, f] pos) σ F (.bool (k1 && (k2 && k3))) := fun H s Q q => by
  obtain ⟨r, ho, hr⟩ := o1
  obtain ⟨r', ho', hr'⟩ := o2
  obtain ⟨r'', ho'', hr''⟩ := o3
  intro pins t I
  refine Compare_chain (thn (ha H s (fun x H2 => ∃ F2, Nw F H F2 H2 ∧ Dp X.K F2 x d1) (fun v F2 H2 n2 dv => ⟨F2, n2, dv⟩) pins t I) fun v t1 ⟨x, H2, I2, r2, F2, n2, dx⟩ => chain_link (thn (hb.mono n2.f H2 n2.i (fun x H3 => ∃ F3, Nw F2 H2 F3 H3 ∧ Dp X.K F3 x d2) (fun v F3 H3 n3 dv => ⟨F3, n3, dv⟩) pins t1 I2) fun u t2 ⟨y, H3, I3, r3, F3, n3, dy⟩ =>
    thn (ho pins t2 σ H3 x y v u (fun z H4 => ∃ F4, Nw F3 H3 F4 H4 ∧ Dp X.K F4 z (.bool k1)) I3 r2 r3 (hr F3 H3 x y _ n3.i (Dpx dx n3.f) dy fun v F4 H4 n4 dv => ⟨F4, n4, dv⟩)) fun w t3 ⟨z, H4, I4, r4, F4, n4, dz⟩ => ?_)) hm
  cases dp_bl dz
  cases r4
  refine wpAny_truthy_bool ?_
  have n14 := (n2.trans n3).trans n4
  cases k1 with
  | false => exact ite_ff ⟨.bl false, H4, I4, rfl, q _ F4 H4 n14 (.bl false)⟩
  | true =>
    refine ite_tt (chain_link (thn (hc.mono n14.f H4 n14.i (fun x H5 => ∃ F5, Nw F4 H4 F5 H5 ∧ Dp X.K F5 x d3) (fun v F5 H5 n5 dv => ⟨F5, n5, dv⟩) pins t3 I4) fun u2 t4 ⟨y2, H5, I5, r5, F5, n5, dy2⟩ =>
      thn (ho' pins t4 σ H5 y y2 u u2 (fun z H6 => ∃ F6, Nw F5 H5 F6 H6 ∧ Dp X.K F6 z (.bool k2)) I5 r3 r5 (hr' F5 H5 y y2 _ n5.i (Dpx dy (n4.f.trans n5.f)) dy2 fun v F6 H6 n6 dv => ⟨F6, n6, dv⟩)) fun w2 t5 ⟨z2, H6, I6, r6, F6, n6, dz2⟩ => ?_))
    cases dp_bl dz2
    cases r6
    refine wpAny_truthy_bool ?_
    have n16 := (n14.trans n5).trans n6
    cases k2 with
    | false => exact ite_ff ⟨.bl false, H6, I6, rfl, q _ F6 H6 n16 (.bl false)⟩
    | true =>
      refine ite_tt (chain_last (thn (hf.mono n16.f H6 n16.i (fun x H7 => ∃ F7, Nw F6 H6 F7 H7 ∧ Dp X.K F7 x d4) (fun v F7 H7 n7 dv => ⟨F7, n7, dv⟩) pins t5 I6) fun u3 t6 ⟨y3, H7, I7, r7, F7, n7, dy3⟩ =>
        ho'' pins t6 σ H7 y2 y3 u2 u3 Q I7 r5 r7 (hr'' F7 H7 y2 y3 Q n7.i (Dpx dy2 (n6.f.trans n7.f)) dy3 fun v F8 H8 n8 dv => q v F8 H8 ((n16.trans n7).trans n8) dv)))

/-! and, or, not -/
theorem ye_one {op : BoolOp} (h : YE X a σ F d) : YE X (.BoolOp op [a] pos) σ F d := fun H s Q q => go_e (pe_one pe_we) (h H s Q q)
theorem ye_and (ha : YE X a σ F (.bool k1)) (hb : k1 = true → YE X (.BoolOp .And (b :: rest) pos) σ F (.bool k2)) : YE X (.BoolOp .And (a :: b :: rest) pos) σ F (.bool (k1 && k2)) := fun H s Q q => by
  refine go_e (pe_and pe_we pe_we) (ha H s _ fun x F2 H2 n2 dx => ⟨k1, dp_bl dx, ?_⟩)
  cases k1 with
  | true => exact iteT ((hb rfl).mono n2.f H2 n2.i Q fun v F3 H3 n3 dv => q v F3 H3 (n2.trans n3) dv)
  | false => exact iteF (q _ F2 H2 n2 (.bl false))
theorem ye_or (ha : YE X a σ F (.bool k1)) (hb : k1 = false → YE X (.BoolOp .Or (b :: rest) pos) σ F (.bool k2)) : YE X (.BoolOp .Or (a :: b :: rest) pos) σ F (.bool (k1 || k2)) := fun H s Q q => by
  refine go_e (pe_or pe_we pe_we) (ha H s _ fun x F2 H2 n2 dx => ⟨k1, dp_bl dx, ?_⟩)
  cases k1 with
  | true => exact iteT (q _ F2 H2 n2 (.bl true))
  | false => exact iteF ((hb rfl).mono n2.f H2 n2.i Q fun v F3 H3 n3 dv => q v F3 H3 (n2.trans n3) dv)
theorem ye_not (ha : YE X a σ F (.bool k)) : YE X (.UnaryOp .Not a pos) σ F (.bool (!k)) := fun H s Q q =>
  go_e (pe_not pe_we) (ha H s _ fun x F2 H2 n2 dx => ⟨k, dp_bl dx, q _ F2 H2 n2 (.bl _)⟩)
theorem yt_val (h : YE X e σ F (.bool k)) (he : ∀ whole, isTrue e X.env whole = (do let v ← whole; standAt e.pos; holding [v] (truthy v)) := by intro _; rfl) : YT X e σ F k := fun H s Q q =>
  go_t (pt_val pe_we he) (h H s _ fun x F2 H2 n2 dx => ⟨k, dp_bl dx, q H2 n2.h⟩)
theorem yw_pt (h : YW X e σ F k) : YT X e σ F k := fun H s Q q => go_t (PW.pt pw_ww) (h H s Q q)
theorem yw_and1 (h : YT X a σ F k) : YW X (.BoolOp .And [a] pos) σ F k := fun H s Q q => go_w (pw_and1 pt_wt) (h H s Q q)
theorem yw_or1 (h : YT X a σ F k) : YW X (.BoolOp .Or [a] pos) σ F k := fun H s Q q => go_w (pw_or1 pt_wt) (h H s Q q)
theorem yw_and (ha : YT X a σ F k1) (hb : k1 = true → YW X (.BoolOp .And (b :: rest) pos) σ F k2) : YW X (.BoolOp .And (a :: b :: rest) pos) σ F (k1 && k2) := fun H s Q q => by
  refine go_w (pw_and pt_wt pw_ww) (ha H s _ fun H2 s2 => ?_)
  cases k1 with
  | true => exact iteT (hb rfl H2 (s.trans s2) Q fun H3 s3 => q H3 (s2.trans s3))
  | false => exact iteF (q H2 s2)
theorem yw_or (ha : YT X a σ F k1) (hb : k1 = false → YW X (.BoolOp .Or (b :: rest) pos) σ F k2) : YW X (.BoolOp .Or (a :: b :: rest) pos) σ F (k1 || k2) := fun H s Q q => by
  refine go_w (pw_or pt_wt pw_ww) (ha H s _ fun H2 s2 => ?_)
  cases k1 with
  | true => exact iteT (q H2 s2)
  | false => exact iteF (hb rfl H2 (s.trans s2) Q fun H3 s3 => q H3 (s2.trans s3))
theorem yt_not (ha : YT X a σ F k) : YT X (.UnaryOp .Not a pos) σ F (!k) := fun H s Q q => go_t (pt_not pt_wt) (ha H s _ fun H2 s2 => q H2 s2)
theorem ye_if (hc : YT X c σ F k) (ha : k = true → YE X a σ F d) (hb : k = false → YE X b σ F d) : YE X (.IfExp c a b pos) σ F d := fun H s Q q => by
  refine go_e (pe_ifExp pt_wt pe_we pe_we) (hc H s _ fun H2 s2 => ?_)
  cases k with
  | true => exact iteT (ha rfl H2 (s.trans s2) Q fun v F3 H3 n3 dv => q v F3 H3 ((Nw.hop s s2).trans n3) dv)
  | false => exact iteF (hb rfl H2 (s.trans s2) Q fun v F3 H3 n3 dv => q v F3 H3 ((Nw.hop s s2).trans n3) dv)

/-! arguments, displays, subscripts -/
theorem ya_nil : YA X [] σ F [] := fun H s Q q => go_a pa_nil (q [] F H (Nw.refl s) .nil)
theorem ya_cons (h : YE X e σ F d) (hr : YA X es σ F ds) (hs : starEach (e :: es) X.env = (false, eval e X.env) :: starEach es X.env := by rfl) : YA X (e :: es) σ F (d :: ds) := fun H s Q q =>
  go_a (pa_cons pe_we pa_wa hs) (h H s _ fun x F2 H2 n2 dx => hr.mono n2.f H2 n2.i _ fun xs F3 H3 n3 dxs => q _ F3 H3 (n2.trans n3) (.cons (Dpx dx n3.f) dxs))
theorem sz4 {n : Nat} (h : n ≤ 100000) : n ≤ sizeLine := Nat.le_trans h (by decide)
theorem sz4l {n : Nat} (h : n < 100000) : n < sizeLine := Nat.lt_of_lt_of_le h (by decide)
theorem ye_tup {k0 : Nat} (h : YA X es σ F ds) (hl : ds.length ≤ 100000 := by exact Nat.le_of_ble_eq_true rfl) : YE X (.Tuple es k0 pos) σ F (.tuple ds) := fun H s Q q =>
  go_e (pe_tup pa_wa) (h H s _ fun xs F2 H2 n2 dxs => ⟨by rw [dpA_len dxs]; exact sz4 hl, fun p hp => q _ _ _ (n2.trans (Nw.put n2.i hp)) (.tup (sqT_of upd_same) (DpAx dxs (same_new (n2.i.free hp))))⟩)
theorem yl_lst (h : YA X es σ F ds) (hl : ds.length ≤ 100000 := by exact Nat.le_of_ble_eq_true rfl) : YL X (.List es pos) σ F ds := fun H s Q q =>
  go_e (pe_lst pa_wa) (h H s _ fun xs F2 H2 n2 dxs => ⟨by rw [dpA_len dxs]; exact sz4 hl, fun p hp => q p xs F2 _ (n2.trans (Nw.hop n2.i (same_new hp))) (n2.h.free hp) (n2.i.free hp) upd_same dxs⟩)
theorem atI_dp {K : PySem.W.Frag} {xs : List V} {i : Int} (h : DpAll K F xs ds) (e : atI ds i = some d) : ∃ v, atI xs i = some v ∧ Dp K F v d := by
  unfold atI at e ⊢
  rw [dpA_len h]
  cases q : ixN ds.length i with
  | none => rw [q] at e; cases e
  | some j =>
    rw [q] at e
    exact dpA_get h e
theorem ye_ixL {i : Int} (ha : YE X a σ F (.list ds)) (hb : YE X b σ F (.int i)) (he : atI ds i = some d) (hs : PlainIx b := by exact fun _ _ => rfl) : YE X (.Subscript a b pos) σ F d := fun H s Q q =>
  go_e (pe_ix ix_list pe_we pe_we hs) (ha H s _ fun x F2 H2 n2 dx => hb.mono n2.f H2 n2.i _ fun y F3 H3 n3 dy => by
    obtain ⟨p, xs, rfl, hS, hA⟩ := dp_lst (Dpx dx n3.f)
    obtain ⟨v, hv, dv⟩ := atI_dp hA he
    exact ⟨p, xs, i, v, rfl, dp_int dy, sqL_at (n3.i p) hS, hv, q v F3 H3 (n2.trans n3) dv⟩)
theorem ye_ixT {i : Int} (ha : YE X a σ F (.tuple ds)) (hb : YE X b σ F (.int i)) (he : atI ds i = some d) (hs : PlainIx b := by exact fun _ _ => rfl) : YE X (.Subscript a b pos) σ F d := fun H s Q q =>
  go_e (pe_ix ix_tup pe_we pe_we hs) (ha H s _ fun x F2 H2 n2 dx => hb.mono n2.f H2 n2.i _ fun y F3 H3 n3 dy => by
    obtain ⟨p, xs, rfl, hS, hA⟩ := dp_tup (Dpx dx n3.f)
    obtain ⟨v, hv, dv⟩ := atI_dp hA he
    exact ⟨p, xs, i, v, rfl, dp_int dy, sqT_at (n3.i p) hS, hv, q v F3 H3 (n2.trans n3) dv⟩)

/-! calls of built-in things -/
def CallD (X : Cx) (f : Value) (ds : List PyData) (d : PyData) : Prop :=
  ∃ r, CallR X f r ∧ ∀ (F H : Hp) (xs : List V) (Q : VK), Same F H → DpAll X.K F xs ds → (∀ v F' H', Nw F H F' H' → Dp X.K F' v d → Q v H') → r xs H Q
theorem ye_callB {x : Str} {id : String} {p : Pos} (c : CallD X (.builtin id) ds d) (hm : X.mg x = none) (hv : bootBuiltins x = some (.builtin id)) (ha : YA X (e :: es) σ F ds) (hg : Gl X x := by rfl) (hn : x ≠ "__name__" := by decide) (hdb : (x == ("__debug__" : Str)) = false := by decide)
    (he : starEach (e :: es) X.env = (false, eval e X.env) :: starEach es X.env := by rfl) (hpl : (backTo pos (starEach es X.env)).any (·.1) = false := by rfl) : YE X (.Call (.Name x p) (e :: es) [] pos) σ F d := fun H s Q q => by
  obtain ⟨r, hc, hr⟩ := c
  exact go_e (pe_callB hc hg hm hv pa_wa hn hdb he hpl) (ha H s _ fun vs F2 H2 n2 dvs => hr F2 H2 vs Q n2.i dvs fun v F3 H3 n3 dv => q v F3 H3 (n2.trans n3) dv)
theorem ye_callTy {x : Str} {T : String} {p : Pos} (c : CallD X (.type T) ds d) (hm : X.mg x = none) (hv : bootBuiltins x = some (.type T)) (ha : YA X (e :: es) σ F ds) (hg : Gl X x := by rfl) (hn : x ≠ "__name__" := by decide) (hdb : (x == ("__debug__" : Str)) = false := by decide)
    (he : starEach (e :: es) X.env = (false, eval e X.env) :: starEach es X.env := by rfl) (hpl : (backTo pos (starEach es X.env)).any (·.1) = false := by rfl) : YE X (.Call (.Name x p) (e :: es) [] pos) σ F d := fun H s Q q => by
  obtain ⟨r, hc, hr⟩ := c
  exact go_e (pe_callTy hc hg hm hv pa_wa hn hdb he hpl) (ha H s _ fun vs F2 H2 n2 dvs => hr F2 H2 vs Q n2.i dvs fun v F3 H3 n3 dv => q v F3 H3 (n2.trans n3) dv)
theorem ye_callG {x : Str} {id : String} {p : Pos} (c : CallD X (.builtin id) ds d) (hm : X.mg x = some (.builtin id)) (ha : YA X (e :: es) σ F ds) (hg : Gl X x := by rfl) (hdb : (x == ("__debug__" : Str)) = false := by decide)
    (he : starEach (e :: es) X.env = (false, eval e X.env) :: starEach es X.env := by rfl) (hpl : (backTo pos (starEach es X.env)).any (·.1) = false := by rfl) : YE X (.Call (.Name x p) (e :: es) [] pos) σ F d := fun H s Q q => by
  obtain ⟨r, hc, hr⟩ := c
  exact go_e (pe_callBfun hc hg hm pa_wa hdb he hpl) (ha H s _ fun vs F2 H2 n2 dvs => hr F2 H2 vs Q n2.i dvs fun v F3 H3 n3 dv => q v F3 H3 (n2.trans n3) dv)
theorem cd_lenL  : CallD X (.builtin "len") [.list ds] (.int ds.length) := ⟨_, call_len_seq, fun F H xs Q s h q => by
  cases h with
  | cons h1 h2 =>
    cases h2
    obtain ⟨p, ys, rfl, hS, hA⟩ := dp_lst h1
    exact ⟨p, ys, rfl, .inl (sqL_at (s p) hS), by rw [dpA_len hA]; exact q _ F H (Nw.refl s) (.int _)⟩⟩
theorem cd_lenT  : CallD X (.builtin "len") [.tuple ds] (.int ds.length) := ⟨_, call_len_seq, fun F H xs Q s h q => by
  cases h with
  | cons h1 h2 =>
    cases h2
    obtain ⟨p, ys, rfl, hS, hA⟩ := dp_tup h1
    exact ⟨p, ys, rfl, .inr (sqT_at (s p) hS), by rw [dpA_len hA]; exact q _ F H (Nw.refl s) (.int _)⟩⟩
theorem cd_abs {i : Int} : CallD X (.builtin "abs") [.int i] (.int (if i < 0 then -i else i)) := ⟨_, call_abs, fun F H xs Q s h q => by
  cases h with
  | cons h1 h2 =>
    cases h2
    cases h1
    exact ⟨i, rfl, q _ F H (Nw.refl s) (.int _)⟩⟩
theorem cd_int {i : Int} : CallD X (.type "int") [.int i] (.int i) := ⟨_, call_int1, fun F H xs Q s h q => by
  cases h with
  | cons h1 h2 =>
    cases h2
    cases h1
    exact .inl ⟨i, rfl, q _ F H (Nw.refl s) (.int _)⟩⟩
theorem cd_min2 {i j : Int} (hc : X.calm = true) : CallD X (.builtin "min") [.int i, .int j] (.int (if j < i then j else i)) := ⟨_, call_min2 hc, fun F H xs Q s h q => by
  cases h with
  | cons h1 h2 =>
    cases h2 with
    | cons h3 h4 =>
      cases h4
      cases h1
      cases h3
      exact ⟨i, j, rfl, q _ F H (Nw.refl s) (.int _)⟩⟩
theorem cd_max2 {i j : Int} (hc : X.calm = true) : CallD X (.builtin "max") [.int i, .int j] (.int (if j > i then j else i)) := ⟨_, call_max2 hc, fun F H xs Q s h q => by
  cases h with
  | cons h1 h2 =>
    cases h2 with
    | cons h3 h4 =>
      cases h4
      cases h1
      cases h3
      exact ⟨i, j, rfl, q _ F H (Nw.refl s) (.int _)⟩⟩
theorem cd_gcd {i j : Int} : CallD X (.builtin "math.gcd") [.int i, .int j] (.int ((Nat.gcd i.natAbs j.natAbs : Nat) : Int)) := ⟨_, cr_gcd, fun F H xs Q s h q => by
  cases h with
  | cons h1 h2 =>
    cases h2 with
    | cons h3 h4 =>
      cases h4
      cases h1
      cases h3
      exact ⟨i, j, rfl, q _ F H (Nw.refl s) (.int _)⟩⟩
/-- the greatest, the least of a list of ints -/
def mxI : List Int → Int
  | [] => 0
  | [a] => a
  | a :: b :: r => max a (mxI (b :: r))
def mnI : List Int → Int
  | [] => 0
  | [a] => a
  | a :: b :: r => min a (mnI (b :: r))
theorem mxI_spec : ∀ (l : List Int), l ≠ [] → mxI l ∈ l ∧ ∀ y ∈ l, y ≤ mxI l
  | [], h => absurd rfl h
  | [a], _ => ⟨List.mem_cons_self, fun y hy => by rw [List.mem_singleton.mp hy]; exact Int.le_refl _⟩
  | a :: b :: r, _ => by
    obtain ⟨h1, h2⟩ := mxI_spec (b :: r) (fun z => nomatch z)
    show max a (mxI (b :: r)) ∈ _ ∧ ∀ y ∈ a :: b :: r, y ≤ max a (mxI (b :: r))
    refine ⟨?_, fun y hy => ?_⟩
    · rcases Int.le_total a (mxI (b :: r)) with c | c
      · rw [Int.max_eq_right c]; exact List.mem_cons_of_mem _ h1
      · rw [Int.max_eq_left c]; exact List.mem_cons_self
    · rcases List.mem_cons.mp hy with e | e
      · rw [e]; exact Int.le_max_left _ _
      · exact Int.le_trans (h2 y e) (Int.le_max_right _ _)
theorem mnI_spec : ∀ (l : List Int), l ≠ [] → mnI l ∈ l ∧ ∀ y ∈ l, mnI l ≤ y
  | [], h => absurd rfl h
  | [a], _ => ⟨List.mem_cons_self, fun y hy => by rw [List.mem_singleton.mp hy]; exact Int.le_refl _⟩
  | a :: b :: r, _ => by
    obtain ⟨h1, h2⟩ := mnI_spec (b :: r) (fun z => nomatch z)
    show min a (mnI (b :: r)) ∈ _ ∧ ∀ y ∈ a :: b :: r, min a (mnI (b :: r)) ≤ y
    refine ⟨?_, fun y hy => ?_⟩
    · rcases Int.le_total a (mnI (b :: r)) with c | c
      · rw [Int.min_eq_left c]; exact List.mem_cons_self
      · rw [Int.min_eq_right c]; exact List.mem_cons_of_mem _ h1
    · rcases List.mem_cons.mp hy with e | e
      · rw [e]; exact Int.min_le_left _ _
      · exact Int.le_trans (Int.min_le_right _ _) (h2 y e)
theorem cd_maxL {ns : List Int} (hc : X.calm = true) (h0 : ns ≠ []) : CallD X (.builtin "max") [.list (ns.map PyData.int)] (.int (mxI ns)) := ⟨_, cr_max hc, fun F H xs Q s h q => by
  cases h with
  | cons h1 h2 =>
    cases h2
    obtain ⟨p, ys, rfl, hS, hA⟩ := dp_lst h1
    rw [dpA_ints hA] at hS
    refine ⟨p, ns, rfl, sqL_at (s p) hS, List.length_pos_iff.mpr h0, fun m hm hle => ?_⟩
    obtain ⟨e1, e2⟩ := mxI_spec ns h0
    have e : m = mxI ns := Int.le_antisymm (e2 m hm) (hle _ e1)
    rw [e]
    exact q _ F H (Nw.refl s) (.int _)⟩
theorem cd_minL {ns : List Int} (hc : X.calm = true) (h0 : ns ≠ []) : CallD X (.builtin "min") [.list (ns.map PyData.int)] (.int (mnI ns)) := ⟨_, cr_min hc, fun F H xs Q s h q => by
  cases h with
  | cons h1 h2 =>
    cases h2
    obtain ⟨p, ys, rfl, hS, hA⟩ := dp_lst h1
    rw [dpA_ints hA] at hS
    refine ⟨p, ns, rfl, sqL_at (s p) hS, List.length_pos_iff.mpr h0, fun m hm hle => ?_⟩
    obtain ⟨e1, e2⟩ := mnI_spec ns h0
    have e : m = mnI ns := Int.le_antisymm (hle _ e1) (e2 m hm)
    rw [e]
    exact q _ F H (Nw.refl s) (.int _)⟩
theorem cd_sum {ns : List Int} (hc : X.calm = true) : CallD X (.builtin "sum") [.list (ns.map PyData.int)] (.int ns.sum) := ⟨_, cr_sum hc, fun F H xs Q s h q => by
  cases h with
  | cons h1 h2 =>
    cases h2
    obtain ⟨p, ys, rfl, hS, hA⟩ := dp_lst h1
    rw [dpA_ints hA] at hS
    exact ⟨p, ns, rfl, sqL_at (s p) hS, q _ F H (Nw.refl s) (.int _)⟩⟩
theorem cd_any {ns : List Bool} (hc : X.calm = true) : CallD X (.builtin "any") [.list (ns.map PyData.bool)] (.bool (ns.any id)) := ⟨_, cr_any hc, fun F H xs Q s h q => by
  cases h with
  | cons h1 h2 =>
    cases h2
    obtain ⟨p, ys, rfl, hS, hA⟩ := dp_lst h1
    rw [dpA_bls hA] at hS
    exact ⟨p, ns, rfl, sqL_at (s p) hS, q _ F H (Nw.refl s) (.bl _)⟩⟩
theorem cd_all {ns : List Bool} (hc : X.calm = true) : CallD X (.builtin "all") [.list (ns.map PyData.bool)] (.bool (ns.all id)) := ⟨_, cr_all hc, fun F H xs Q s h q => by
  cases h with
  | cons h1 h2 =>
    cases h2
    obtain ⟨p, ys, rfl, hS, hA⟩ := dp_lst h1
    rw [dpA_bls hA] at hS
    exact ⟨p, ns, rfl, sqL_at (s p) hS, q _ F H (Nw.refl s) (.bl _)⟩⟩
theorem cd_tuple  : CallD X (.type "tuple") [.list ds] (.tuple ds) := ⟨_, call_tuple_of, fun F H xs Q s h q => by
  cases h with
  | cons h1 h2 =>
    cases h2
    obtain ⟨p, ys, rfl, hS, hA⟩ := dp_lst h1
    exact ⟨p, ys, rfl, .inl ⟨sqL_at (s p) hS, fun l hl => q _ _ _ (Nw.put s hl) (.tup (sqT_of upd_same) (DpAx hA (same_new (s.free hl))))⟩⟩⟩
end
end K10
set_option Elab.async false
set_option linter.all false
set_option maxRecDepth 100000
set_option maxHeartbeats 4000000
/-! Rules that this claim lacked: enumerate of a tuple, xs[i] += e of a list, an own exception made without arguments, sorted of a dict whose keys are tuples of ints. -/
namespace K10
open PySem PySem.Spec PyProof.Rows L2

/-! ### enumerate of a tuple -/
set_option maxHeartbeats 4000000 in
theorem meets_en1 {v : Value} {o : Obj} {HH : Heap → Prop} (B : Begins v o HH) :
    Meets (Builtin.«enumerate.__new__» ⟨[.type "enumerate", v], []⟩) (fun _ R s => HH s.heap ∧
      R (.ok (.ret (.ref (s.heap.push o).objs.size))) { s with heap := (s.heap.push o).push { cls := .type "enumerate", data := .fields #[.none, .bool false, .ref s.heap.objs.size, rawInt 0, .none, .none] } }) :=
  .of_wp fun prog w A R s hyp => by
    obtain ⟨hp, g, d, tk, os⟩ := s; obtain ⟨z1, hyp⟩ := hyp
    have hsub := sub_enumerate
    have begin1 : ∀ {A' : Around} {E : Value → Shared → Prop} {Q : Value → Shared → Prop}, Q (.ref hp.objs.size) ⟨hp.push o, g, d, tk, os⟩ → wpAny (model prog w) A' (pyIter v) Q E ⟨hp, g, d, tk, os⟩ :=
      fun z => B.iter prog w _ _ ⟨hp, g, d, tk, os⟩ _ z1 z
    wp_walk using begin1
    refine wpAny_stack_any fun st => wpAny_pure ?_
    split
    · rename_i c _ _ _ _ _
      cases (c == Value.type "enumerate")
      · wp_walk using begin1
        exact ⟨_, rfl, hyp⟩
      · wp_walk using begin1
        exact ⟨_, rfl, hyp⟩
    · wp_walk using begin1
      exact ⟨_, rfl, hyp⟩
theorem en1_begins {prog : Program} {w : World} {A : Around} {E : Value → Shared → Prop} {s : Shared} {v : Value} {o : Obj} {HH : Heap → Prop} {Q : Value → Shared → Prop} (B : Begins v o HH) (z1 : HH s.heap)
    (k : ∀ h', IsEnum h' (s.heap.objs.size + 1) s.heap.objs.size 0 .none → h'.get? s.heap.objs.size = some o →
      (∀ b o, s.heap.get? b = some o → h'.get? b = some o) → Q (.ref (s.heap.objs.size + 1)) { s with heap := h' }) :
    wpAny (model prog w) A (call (.type "enumerate") [v]) Q E s := by
  refine callType_new F.called_enumerate (by decide) (F.typeCall_enumerate_1 _) (F.newCall_enumerate_1 _) (fun obj => F.args_object_init_2 obj _) F.entry_enumerate_new (meets_en1 B) ⟨z1, ?_⟩
  have size1 : (s.heap.push o).objs.size = s.heap.objs.size + 1 := Heap.size_push ..
  show _ ∧ _
  rw [size1]
  have at1 : IsEnum ((s.heap.push o).push { cls := .type "enumerate", data := .fields #[.none, .bool false, .ref s.heap.objs.size, rawInt 0, .none, .none] }) (s.heap.objs.size + 1) s.heap.objs.size 0 .none := by
    have t := Heap.get?_push_size (s.heap.push o) (o := { cls := .type "enumerate", data := .fields #[.none, .bool false, .ref s.heap.objs.size, rawInt 0, .none, .none] }) rfl
    rw [size1] at t; exact t
  exact ⟨⟨_, at1, rfl⟩, k _ at1 (Heap.get?_push_of_some _ (Heap.get?_push_size _ B.free)) fun b o x => Heap.get?_push_of_some _ (Heap.get?_push_of_some _ x)⟩
/-- the tuple at a, each item in a new pair with its number -/
def IteT (K : PySem.W.Frag) (a : Addr) : It where
  go i H := ∃ (xs : List V) (x : V), SqT K H a xs ∧ xs[i]? = some x
  yld i H v H' := ∃ T x, v = .ref T ∧ H T = none ∧ H' = upd H T (.tup [.int (i : Nat), x]) ∧ ∀ xs, SqT K H a xs → xs[i]? = some x
  stop i H := ∃ xs : List V, SqT K H a xs ∧ xs.length ≤ i
theorem turn_enT {P : Program} {w : World} {K : PySem.W.Frag} {elts : List Expr} {kk : Nat} {tpos : Pos} (a e it : Addr) :
    Turn P w K (.Tuple elts kk tpos) (IteT K a) [e, it] e (fun i h => (∃ old, IsEnum h e it ((i : Nat) : Int) old) ∧ h.IsTupleIter it a i ∧ e ≠ it) where
  mem := by simp
  obj := fun i h st b hb => by
    obtain ⟨⟨old, he⟩, ⟨o, ho, hc, hd⟩, _⟩ := st
    have two : b = e ∨ b = it := by simpa using hb
    rcases two with z | z
    · rw [z]; exact ⟨_, he, fun v q => nomatch q⟩
    · rw [z]; exact ⟨o, ho, fun v q => by rw [hd] at q; cases q⟩
  keep := fun i h h' st k => let ⟨⟨old, he⟩, hi, hne⟩ := st; ⟨⟨old, k e (by simp) _ he⟩, hi.at fun o q => k it (by simp) o q, hne⟩
  item := by
    intro X hP hw hK hc i pins s σ H E I hf st hg
    subst hP hw hK
    obtain ⟨⟨old, he⟩, hit, hne⟩ := st
    obtain ⟨xs, x, hq, hx⟩ := hg
    obtain ⟨its, rv, p, hz⟩ := I.tuple hq
    obtain ⟨u, hu, ru⟩ := rv.get hx
    have hel : e < s.heap.objs.size := Heap.lt_size he
    have hil : it < s.heap.objs.size := by obtain ⟨_, q, _⟩ := hit; exact Heap.lt_size q
    have nai : a ≠ it := fun z => by
      obtain ⟨o1, e1, c1, _⟩ := p
      obtain ⟨o2, e2, c2, _⟩ := hit
      rw [z, e2] at e1
      cases e1
      rw [c1] at c2
      exact absurd c2 (by decide)
    have nae : e ≠ a := fun z => by
      obtain ⟨o1, e1, c1, _⟩ := p
      rw [← z, he] at e1
      cases e1
      have c2 : Value.type "enumerate" = Value.type "tuple" := c1
      exact absurd c2 (by decide)
    have hlt : i < its.toArray.size := by
      have := (List.getElem?_eq_some_iff.mp hu).1
      simpa using this
    refine wpAny_pyNext_enum_itemD (Draws.tuple (A := X.A.in1) (I.ok.hd hc) it a nai its.toArray) he ⟨hit, p⟩ hlt hne (by simp [hne, nae]) fun y h' tk hy ho hst' hT hsz hk => ?_
    have ey : y = u := by
      have hy' : its.toArray[i]? = some y := hy
      simp only [List.getElem?_toArray] at hy'
      rw [hu] at hy'
      exact (Option.some.inj hy').symm
    subst ey
    refine ⟨_, rfl, wpAny_letOwnedTupleGo_enum (s := { s with heap := h', toks := tk + 1 }) ho fun h'' he' sb => ?_⟩
    have hT2 : h''.get? s.heap.objs.size = some { cls := .type "tuple", data := .seq #[.int i tk, y] } := (sb.2 _ (Nat.ne_of_gt hel)).trans hT
    have new : ObjOk X.prog X.w (upd H s.heap.objs.size (.tup [.int (i : Nat), x])) h'' s.heap.objs.size (.tup [.int (i : Nat), x]) :=
      ⟨by show 2 ≤ sizeLine; decide, [.int i tk, y], .cons ⟨_, rfl⟩ (.cons ru .nil), ⟨_, hT2, rfl, _, rfl⟩⟩
    have I1 : Inv X pins σ (upd H s.heap.objs.size (.tup [.int (i : Nat), x])) { s with heap := h'', toks := tk + 1 } :=
      I.turnedNew (ch := [e, it]) (fun b ob hb q => (sb.2 b (fun z => hb (by simp [z]))).trans (hk b ob (fun z => hb (by simp [z])) (fun z => hb (by simp [z])) q)) hf (Nat.le_refl _) new
    refine ⟨.ref s.heap.objs.size, _, I1, rfl, ⟨_, x, rfl, I.hok.fresh (Nat.le_refl _), rfl, fun ys hy2 => by rw [I.tuple_inj hy2 hq]; exact hx⟩, ⟨⟨y, ?_⟩, hst'.1.at fun o q => (sb.2 it (Ne.symm hne)).trans q, hne⟩, fun b hb => ?_⟩
    · have step1 : ((i + 1 : Nat) : Int) = (i : Int) + 1 := by omega
      rw [step1]; exact he'
    · have below : b < s.heap.objs.size := by
        have two : b = e ∨ b = it := by simpa using hb
        rcases two with z | z
        · rw [z]; exact hel
        · rw [z]; exact hil
      rw [upd_ne (Nat.ne_of_lt below)]
      exact (hf b hb).1
  done := by
    intro X hP hw hK hc i pins s σ H E I hf st hg
    subst hP hw hK
    obtain ⟨⟨old, he⟩, hit, hne⟩ := st
    obtain ⟨xs, hq, hx⟩ := hg
    obtain ⟨its, rv, p, hz⟩ := I.tuple hq
    obtain ⟨f0, f1, f2, f3, f4, f5⟩ := hf it (by simp)
    have hl := rv.length
    have hT : s.TypeIs (.ref e) "enumerate" := ⟨_, he, rfl⟩
    unfold pyNext
    refine wpAny_bind (wpAny_attempt (wpAny_callSpecial?_slot (name := Str.ofString "__next__") hT F.slot_enumerate_next
      (wpAny_call_entry F.slot_enumerate_next hT F.entry_enumerate_next ?_ (F.args_enumerate_next_1 _))))
    show wpAny _ _ (field (.ref e) 2 >>= _) _ _ _
    refine wpAny_bind (wpAny_field he rfl (x := .ref it) rfl ?_)
    refine wpAny_bind (wpAny_nextOf_tuple_end (I.ok.hd hc) hit p (by simp; omega) fun h' x eb hx' => ?_)
    obtain ⟨o, ho, hc'⟩ := hx'
    refine wpAny_bind (wpAny_isInstance (T := "StopIteration") (b := true) ⟨o, ho, hc'⟩ isSubtype_stop ?_)
    exact wpAny_pure ⟨rfl, I.turned (t' := s.toks) (fun b o hb q => eb b o hb q) f0 f1 f3 f4 f5⟩
  self := fun A i s Q E st h => let ⟨⟨_, he⟩, _⟩ := st; wpAny_pyIter_enum he h
def iEnT (K : PySem.W.Frag) (ta : TA) : TI := fun σ H R => ta σ H fun vs H1 => ∃ a xs, vs = [.ref a] ∧ SqT K H1 a xs ∧ R (IteT K a) H1
theorem pi_enT {X : Cx} {e : Expr} {ta : TA} {p pos tpos : Pos} {elts : List Expr} {kk : Nat} (hg : Gl X "enumerate") (hm : X.mg "enumerate" = none) (ha : PA X [e] ta) (hs : starEach [e] X.env = [(false, eval e X.env)] := by rfl) :
    PI X (.Tuple elts kk tpos) (.Call (.Name "enumerate" p) [e] [] pos) (iEnT X.K ta) := by
  refine ⟨fun pins s σ H R I hyp => ?_⟩
  refine Call_ (ld_blt I hg hm PyProof.Rows.boot_enumerate (PyProof.Rows.callWith_type1 (thn (ha.run pos pins s σ H _ I hyp) fun us s1 ⟨vs, H1, I1, r1, q1⟩ => ?_) hs rfl))
  obtain ⟨a, xs, ex, hq, q⟩ := q1
  subst ex
  cases r1 with
  | cons r rr =>
    cases rr
    cases r
    obtain ⟨its, rv, pt, hz⟩ := I1.tuple hq
    refine en1_begins (begins_tuple a its.toArray) pt fun h' he hit hk => wpAny_pyIter_enum he ?_
    have I2 : Inv X pins σ H1 { s1 with heap := h' } := I1.kept (t' := s1.toks) hk
    refine ⟨s1.heap.objs.size + 1, [s1.heap.objs.size + 1, s1.heap.objs.size], _, _, H1, rfl, I2, turn_enT a (s1.heap.objs.size + 1) s1.heap.objs.size, ⟨⟨.none, he⟩, ⟨_, hit, rfl, rfl⟩, Nat.succ_ne_self _⟩, fun b hb => ?_, q⟩
    have two : b = s1.heap.objs.size + 1 ∨ b = s1.heap.objs.size := by simpa using hb
    have above : s1.heap.objs.size ≤ b := by
      rcases two with z | z
      · rw [z]; exact Nat.le_add_right _ _
      · rw [z]; exact Nat.le_refl _
    exact I1.fpOk above (I1.hok.fresh above)

/-! ### xs[i] of a list, read for xs[i] += e -/
theorem pgetL {X : Cx} : PGet X (fun x y H Q => ∃ (p : Addr) (xs : List V) (j : Nat) (v : V), x = .ref p ∧ y = .int (j : Int) ∧ SqL X.K H p xs ∧ xs[j]? = some v ∧ Q v H) := by
  intro pins s σ H x y ov iv Q I rx ry hyp
  obtain ⟨p, xs, j, v, rfl, rfl, hq, hv, q⟩ := hyp
  cases rx
  obtain ⟨t, rfl⟩ := ry
  obtain ⟨its, r, pl, hz⟩ := I.list hq
  obtain ⟨u, hu, ru⟩ := r.get hv
  have hj := (List.getElem?_eq_some_iff.mp hv).1
  have hn := line63
  exact wpAny_getItem_list pl.isList (by omega) (by omega) (by simpa using hu) ⟨v, H, I, ru, q⟩

/-! ### X() of an own exception class, no argument -/
theorem pmk_own0 {X : Cx} {C : Addr} {bmB : List Value} {B newId initId : String} {x : Str} {p pos : Pos} (F : ExcBaseFacts B newId initId bmB) (q : PySem.W.excIn X.K C bmB newId = true) (gC : X.mg x = some (.ref C)) (kC : PySem.W.keepIn X.K (.ref C) = true) (r : Raises X (.ref C)) (hg : Gl X x)
    (hdb : (x == ("__debug__" : Str)) = false := by decide) : PMk X (.Call (.Name x p) [] [] pos) (fun _ H Q => Q (.ref C) none H) := by
  intro pins s σ H Q I hyp
  refine wpAny_Call_Name_kw (ld_glob I hg gC ?_ hdb)
  refine PySem.W.callWith_K0 I.kIn kC ?_
  obtain ⟨bm, N, nm, qn, bs, hdct, sn, sub, ab, col, dd, k0, k1, k2, k3, k5, mN, hC, hN, hni, T⟩ := exc_obj I.kIn q
  refine wpAny_call_exc_subT F T hC hN hni (fun h' e hm => ?_) (by show 0 ≤ sizeLine; exact Nat.zero_le _)
  exact mk_of I hm r hyp (I.hok.gone hm.new)

/-! ### sorted(d), d's keys tuples of ints -/
def adV : Value → Addr
  | .ref a => a
  | _ => 0
def rSortDT (d : Nat) (B : Int) : List V → Hp → VK → Prop := fun vs H Q => ∃ (a : Addr) (kvs : List (List Key × V)) (ks : List (List Int)), vs = [V.ref a] ∧ Rd H a (.dT kvs) ∧ kvs.map (·.1) = ks.map (fun k => k.map Sum.inl) ∧ ks.length < 64 ∧ (∀ k ∈ ks, k.length = d ∧ TS.Bd B k) ∧
  ∀ (ps : List (Addr × List Int)) (p : Addr), (ps.map (·.2)).Perm ks → ps.Pairwise (fun q r => TS.code B q.2 ≤ TS.code B r.2) → (∀ q ∈ ps, H q.1 = some (.tup (q.2.map V.int))) → H p = none → Q (.ref p) (upd H p (.lst (ps.map fun q => V.ref q.1)))
theorem kv_inl (k : List Int) : (k.map (Sum.inl : Int → Key)).map kV = k.map V.int := by
  rw [List.map_map]
  rfl
theorem paired_at {α β : Type} {G : α → β → Prop} : ∀ {l₁ : List α} {l₂ : List β} {j : Nat} {x : α} {y : β}, Paired G l₁ l₂ → l₁[j]? = some x → l₂[j]? = some y → G x y
  | _, _, _, _, _, .nil, e, _ => by simp at e
  | _, _, 0, _, _, .cons r _, e, e' => by
    cases (Option.some.inj e)
    cases (Option.some.inj e')
    exact r
  | _, _, j + 1, _, _, .cons _ t, e, e' => paired_at (j := j) t (by simpa using e) (by simpa using e')
theorem cr_sortDT {X : Cx} {d : Nat} {B : Int} (hd1 : 1 ≤ d) (hc : X.calm = true) : CallR X (.builtin "sorted") (rSortDT d B) := by
  intro pins s σ H vs us Q I r hyp
  obtain ⟨a, kvs, ks, rfl, hdR, hks, h64, hB, q⟩ := hyp
  rw [Vals.ref1 r]
  obtain ⟨z, hs, xs, pr, o, es, ep, ho, hx, hdt, he, hn⟩ := (show ObjOk X.prog X.w H s.heap a (.dT kvs) from hdR.ok I.hok)
  have l1 : es.size = xs.length := size_of_entries he
  have l2 : kvs.length = xs.length := Paired.length pr
  have l3 : kvs.length = ks.length := by
    have e := congrArg List.length hks
    rw [List.length_map, List.length_map] at e
    exact e
  have key : ∀ (j : Nat) (y : List Key × Addr × Value), xs[j]? = some y → ∃ k, ks[j]? = some k ∧ H y.2.1 = some (.tup (k.map V.int)) := fun j y hy => by
    have hj : j < kvs.length := by
      have := (List.getElem?_eq_some_iff.mp hy).1
      omega
    obtain ⟨e1, e2, _⟩ := paired_at pr (List.getElem?_eq_getElem hj) hy
    have hjk : j < ks.length := by omega
    have e3 : (kvs.map (·.1))[j]? = some kvs[j].1 := by rw [List.getElem?_map, List.getElem?_eq_getElem hj]; rfl
    rw [hks, List.getElem?_map, List.getElem?_eq_getElem hjk] at e3
    have e4 : ks[j].map Sum.inl = kvs[j].1 := Option.some.inj e3
    refine ⟨ks[j], List.getElem?_eq_getElem hjk, ?_⟩
    rw [e2, ← e4, kv_inl]
  refine Calls.call_function_entry PyProof.Rows.kind_sorted PyProof.Rows.plain_sorted PyProof.Rows.entry_sorted (PyProof.Rows.args_sorted1 _) ?_
  unfold Builtin.«sorted»
  refine wpAny_bind (m := checkCount "sorted" 1 1 _) (wpAny_pure ?_)
  refine wpAny_bind (PySem.W.kdu_collect (A := X.A.in1) (kdl_raw hs hx hdt) (I.ok.hd hc) ho (by rw [sizeLine_eq]; omega) fun h' tk acc hk hacc => ?_)
  have lacc : acc.toList.length = xs.length := by rw [Array.length_toList, hacc.1]; exact l1
  have atA : ∀ (j : Nat) (v : Value), acc.toList[j]? = some v → ∃ y, xs[j]? = some y ∧ v = .ref y.2.1 := fun j v hv => by
    obtain ⟨en, hen, hv2⟩ := hacc.2 j v (by rw [← Array.getElem?_toList]; exact hv)
    have qe := entry_at he j
    rw [hen] at qe
    cases hb : xs[j]? with
    | none =>
      rw [hb] at qe
      exact nomatch (show some en = none from qe)
    | some b =>
      rw [hb] at qe
      have e2 : en = entryOfKey (tupleKind (mixKind X.prog X.w)) b := Option.some.inj qe
      refine ⟨b, rfl, ?_⟩
      rw [hv2, e2]
      rfl
  have I1 : Inv X pins σ H { s with heap := h', toks := tk } := I.kept hk
  refine wpAny_bind (wpAny_newList ?_ (by rw [lacc, sizeLine_eq]; omega))
  have hoL : (h'.push (seqObj "list" acc.toList.toArray 0)).get? h'.objs.size = some (seqObj "list" acc.toList.toArray 0) := Heap.get?_push_size _ rfl
  show wpAny _ _ _ _ _ { s with heap := h'.push (seqObj "list" acc.toList.toArray 0), toks := tk }
  have tk1 : ∀ (j : Nat) (v : Value), acc.toList[j]? = some v → ∃ k t, ks[j]? = some k ∧ v = .ref t ∧ H t = some (.tup (k.map V.int)) ∧ TS.TupInts (h'.push (seqObj "list" acc.toList.toArray 0)) v k := fun j v hv => by
    obtain ⟨y, hy, ev⟩ := atA j v hv
    obtain ⟨k, hk1, hk2⟩ := key j y hy
    refine ⟨k, y.2.1, hk1, ev, hk2, ?_⟩
    rw [ev]
    exact (tupI_raw I1 (SqT.of hk2)).keeps fun b o e _ => Heap.get?_push_of_some _ e
  have ok1 : TS.TupsOk (h'.push (seqObj "list" acc.toList.toArray 0)) d B acc.toList := fun v hv => by
    obtain ⟨j, hj, e⟩ := List.getElem_of_mem hv
    obtain ⟨k, t, h1, _, _, h4⟩ := tk1 j v (by rw [List.getElem?_eq_getElem hj, e])
    obtain ⟨b1, b2⟩ := hB k (List.mem_of_getElem? h1)
    exact ⟨k, h4, b1, b2⟩
  refine wpAny_bind (wpAny_holding (TS.call_sort_tups (s := { s with heap := h'.push (seqObj "list" acc.toList.toArray 0), toks := tk }) hoL (by rw [lacc]; omega) hd1 ok1 fun out a1 a2 => ?_))
  obtain ⟨c, hcp⟩ := PyProof.Rows.sortedHeap_at (vs := acc.toList) (out := out) hoL
  generalize hg : TS.intsOf (h'.push (seqObj "list" acc.toList.toArray 0)) = g at a2
  have mapK : acc.toList.map g = ks := by
    apply List.ext_getElem?
    intro j
    rw [List.getElem?_map]
    cases hj : acc.toList[j]? with
    | none =>
      have := List.getElem?_eq_none_iff.mp hj
      rw [List.getElem?_eq_none (by omega)]
      rfl
    | some v =>
      obtain ⟨k, t, h1, _, _, h4⟩ := tk1 j v hj
      rw [h1, ← hg]
      exact congrArg some h4.ints
  have each : ∀ v ∈ out.toList, ∃ t, v = .ref t ∧ H t = some (.tup ((g v).map V.int)) := fun v hv => by
    obtain ⟨j, hj, e⟩ := List.getElem_of_mem (a1.mem_iff.mp hv)
    obtain ⟨k, t, _, h2, h3, h4⟩ := tk1 j v (by rw [List.getElem?_eq_getElem hj, e])
    refine ⟨t, h2, ?_⟩
    rw [← hg, h4.ints]
    exact h3
  have vals : ∀ (l : List Value), (∀ v ∈ l, ∃ t, v = Value.ref t ∧ H t = some (.tup ((g v).map V.int))) → Vals ((l.map fun v => (adV v, g v)).map fun q => V.ref q.1) l := by
    intro l
    induction l with
    | nil => intro _; exact .nil
    | cons v l ih =>
      intro hl
      obtain ⟨t, ev, _⟩ := hl v List.mem_cons_self
      refine .cons ?_ (ih fun u hu => hl u (List.mem_cons_of_mem _ hu))
      rw [ev]
      rfl
  have hv := vals out.toList each
  have lout : out.toList.length = acc.toList.length := a1.length_eq
  have hlen : ((out.toList.map fun v => (adV v, g v)).map fun q => V.ref q.1).length ≤ sizeLine := by
    rw [List.length_map, List.length_map, lout, lacc, sizeLine_eq]
    omega
  have keep2 : ∀ b u, h'.get? b = some u → (sortedHeap (h'.push (seqObj "list" acc.toList.toArray 0)) h'.objs.size acc.toList out).get? b = some u := fun b u e => by
    have hlt := Heap.lt_size e
    rw [PyProof.Rows.sortedHeap_old (Nat.ne_of_lt hlt) (by rw [size_push']; exact Nat.lt_succ_of_lt hlt)]
    exact Heap.get?_push_of_some _ e
  refine wpAny_pure ⟨_, rfl, .ref h'.objs.size, upd H h'.objs.size (.lst ((out.toList.map fun v => (adV v, g v)).map fun q => V.ref q.1)), I1.laid (t' := tk) keep2 (Nat.le_refl _) (show ObjOk X.prog X.w _ _ _ (.lst _) from ⟨hlen, out.toList, c, hv, by rw [Array.toArray_toList]; exact hcp⟩), rfl, q _ _ ?_ ?_ ?_ (I1.hok.fresh (Nat.le_refl _))⟩
  · rw [List.map_map]
    have e : out.toList.map ((fun q : Addr × List Int => q.2) ∘ fun v => (adV v, g v)) = out.toList.map g := rfl
    rw [e, ← mapK]
    exact a1.map g
  · rw [List.pairwise_map]
    exact a2
  · intro p hp
    obtain ⟨v, hv1, e⟩ := List.mem_map.mp hp
    obtain ⟨t, ev, ht⟩ := each v hv1
    rw [← e, ev]
    rw [ev] at ht
    exact ht
end K10
set_option Elab.async false
set_option linter.all false
set_option maxRecDepth 100000
set_option maxHeartbeats 4000000
/-! Statements, loops, comprehensions and calls of the text's own defs over the calculus. -/
namespace K10
open PySem PySem.Spec PyProof.Rows L2

section
variable {X : Cx} {σ : L2.St} {F F' H H' : Hp} {D : Ends} {st : Stmt} {rest body : List Stmt} {e a b c o i' : Expr} {es : List Expr} {pos pos' : Pos} {d d1 d2 d3 : PyData} {ds : List PyData} {k : Bool} {x y z : Str} {v : V} {tg : Expr}
/-! ### statements -/
theorem wss_nil (h : D.nx σ H) : WSs X [] D σ H := go_ss pss_nil h
theorem wss_cons (h : WS X st { D with nx := WSs X rest D } σ H) : WSs X (st :: rest) D σ H := go_ss (pss_cons ps_ws pss_ws) h
theorem wss_one (h : WS X st D σ H) : WSs X [st] D σ H := go_ss (pss_one ps_ws) h
theorem ws_set (i : Nat) (nd : X.N.Nodup) (h : WE X e σ H fun u H1 => D.nx (σ.set i (some u)) H1) (hi : X.N[i]? = some x := by rfl) (hx : Loc X.env.scope x := by first | exact Or.inl rfl | exact Or.inr rfl) (hs : swapsWith e (some (.Name x pos')) pos.line X.env = pure false := by rfl)
    (hf : X.fn x = true ∨ X.env.scope.names.lookup x = some .local := by first | exact .inl rfl | exact .inr rfl | assumption) : WS X (.Assign [.Name x pos'] e pos) D σ H := go_s (ps_set nd hi hx pe_we hs hf) h
theorem ws_expr (h : WE X e σ H fun _ H1 => D.nx σ H1) (hs : swapsWith e none pos.line X.env = pure false := by rfl) : WS X (.Expr e pos) D σ H := go_s (ps_expr pe_we hs) h
theorem ws_ret (h : WE X e σ H D.rt) : WS X (.Return (some e) pos) D σ H := go_s (ps_ret pe_we) h
theorem ws_if {p q : List Stmt} (h : WT X c σ H fun k H1 => if k = true then WSs X p D σ H1 else WSs X q D σ H1) : WS X (.If c p q pos) D σ H := go_s (ps_if pt_wt pss_ws pss_ws) h
theorem ws_ifY {p q : List Stmt} (hc : YT X c σ F k) (s : Same F H) (ha : k = true → ∀ H1, Same H H1 → WSs X p D σ H1) (hb : k = false → ∀ H1, Same H H1 → WSs X q D σ H1) : WS X (.If c p q pos) D σ H :=
  ws_if (hc H s _ fun H1 s1 => by
    cases k with
    | true => exact iteT (ha rfl H1 s1)
    | false => exact iteF (hb rfl H1 s1))
theorem ws_asg (h : WE X e σ H fun u H1 => WG X tg u σ H1 D.nx) (hs : swapsWithSole [tg] e pos.line X.env = pure false := by rfl) (hw : swappedStores [tg] e X.env = pure none := by rfl) (h1 : (assignEach [tg] X.env).map (·.2) = [assign tg X.env] := by rfl) : WS X (.Assign [tg] e pos) D σ H :=
  go_s (ps_asg pe_we pg_wg hs hw h1) h
theorem ws_sub (h : WE X e σ H fun u H1 => WE X o σ H1 fun ov H2 => WE X i' σ H2 fun iv H3 => rSetL ov iv u H3 fun H4 => D.nx σ H4)
    (ha : ∀ v, assign (.Subscript o i' pos') X.env v = (do
      let ov ← holding [v] (eval o X.env)
      let iv ← holding [v, ov] (eval i' X.env)
      standAt pos'
      holding [v, ov, iv] (setItem ov iv v)
      release [v, ov, iv] []) := by intro _; rfl) (hs : swapsWithSole [.Subscript o i' pos'] e pos.line X.env = pure false := by rfl) (hw : swappedStores [.Subscript o i' pos'] e X.env = pure none := by rfl) (h1 : (assignEach [.Subscript o i' pos'] X.env).map (·.2) = [assign (.Subscript o i' pos') X.env] := by rfl) : WS X (.Assign [.Subscript o i' pos'] e pos) D σ H :=
  go_s (ps_asg pe_we (pg_sub pe_we pe_we set_list ha) hs hw h1) h
theorem ws_par (i j : Nat) (hc : X.calm = true) (nd : X.N.Nodup) {px py pt : Pos} {kt k2 pt2} (h : WA X [a, b] σ H fun vs H1 => ∃ v w, vs = [v, w] ∧ D.nx ((σ.set i (some v)).set j (some w)) H1) (hi : X.N[i]? = some x := by rfl) (hj : X.N[j]? = some y := by rfl) (hij : i ≠ j := by decide)
    (hx : X.env.scope.names.lookup x = some .local := by rfl) (hy : X.env.scope.names.lookup y = some .local := by rfl)
    (hw : swappedStores [.Tuple [.Name x px, .Name y py] kt pt] (.Tuple [a, b] k2 pt2) X.env = pure (some [x, y]) := by rfl)
    (hs : swapsWithSole [.Tuple [.Name x px, .Name y py] kt pt] (.Tuple [a, b] k2 pt2) pos.line X.env = pure false := by rfl) :
    WS X (.Assign [.Tuple [.Name x px, .Name y py] kt pt] (.Tuple [a, b] k2 pt2) pos) D σ H := go_s (ps_par hc nd hi hj hij hx hy pa_wa hw hs) h
/-! targets -/
theorem wg_name (i : Nat) {Q : L2.St → Hp → Prop} (nd : X.N.Nodup) (h : Q (σ.set i (some v)) H) (hi : X.N[i]? = some x := by rfl) (hx : Loc X.env.scope x := by first | exact Or.inl rfl | exact Or.inr rfl)
    (hf : X.fn x = true ∨ X.env.scope.names.lookup x = some .local := by first | exact .inl rfl | exact .inr rfl | assumption) : WG X (.Name x pos) v σ H Q := go_g (pg_name nd hi hx hf) h
theorem wg_two (i j : Nat) {Q : L2.St → Hp → Prop} {px py : Pos} {kt : Nat} (hc : X.calm = true) (nd : X.N.Nodup) (s : Same F H) (hd : Dp X.K F v (.tuple [d1, d2])) (h : ∀ v1 v2, Dp X.K F v1 d1 → Dp X.K F v2 d2 → Q ((σ.set i (some v1)).set j (some v2)) H)
    (hi : X.N[i]? = some x := by rfl) (hj : X.N[j]? = some y := by rfl) (hx : Loc X.env.scope x := by first | exact Or.inl rfl | exact Or.inr rfl) (hy : Loc X.env.scope y := by first | exact Or.inl rfl | exact Or.inr rfl)
    (hf : X.fn x = true ∨ X.env.scope.names.lookup x = some .local := by first | exact .inl rfl | exact .inr rfl | assumption) (hf2 : X.fn y = true ∨ X.env.scope.names.lookup y = some .local := by first | exact .inl rfl | exact .inr rfl | assumption)
    (hn : (assignEach [.Name x px, .Name y py] X.env).length = 2 := by rfl) (hst : (assignEach [.Name x px, .Name y py] X.env).findIdx? (·.1) = none := by rfl) (h1 : (assignEach [.Name x px, .Name y py] X.env).map (·.2) = assign (.Name x px) X.env :: (assignEach [.Name y py] X.env).map (·.2) := by rfl)
    (h2 : (assignEach [.Name y py] X.env).map (·.2) = assign (.Name y py) X.env :: (assignEach [] X.env).map (·.2) := by rfl) : WG X (.Tuple [.Name x px, .Name y py] kt pos) v σ H Q := by
  obtain ⟨p, xs, rfl, hS, hA⟩ := dp_tup hd
  cases hA with
  | cons a1 hA =>
    cases hA with
    | cons a2 hA =>
      cases hA
      exact go_g (pg_tup hc (pgs_cons (pg_name nd hi hx hf) (pgs_cons (pg_name nd hj hy hf2) pgs_nil h2) h1) hn hst) ⟨p, _, rfl, sqT_at (s p) hS, rfl, _, _, rfl, _, _, rfl, rfl, h _ _ a1 a2⟩
theorem wg_three (i j l : Nat) {Q : L2.St → Hp → Prop} {px py pz : Pos} {kt : Nat} (hc : X.calm = true) (nd : X.N.Nodup) (s : Same F H) (hd : Dp X.K F v (.tuple [d1, d2, d3])) (h : ∀ v1 v2 v3, Dp X.K F v1 d1 → Dp X.K F v2 d2 → Dp X.K F v3 d3 → Q (((σ.set i (some v1)).set j (some v2)).set l (some v3)) H)
    (hi : X.N[i]? = some x := by rfl) (hj : X.N[j]? = some y := by rfl) (hl : X.N[l]? = some z := by rfl) (hx : Loc X.env.scope x := by first | exact Or.inl rfl | exact Or.inr rfl) (hy : Loc X.env.scope y := by first | exact Or.inl rfl | exact Or.inr rfl) (hz : Loc X.env.scope z := by first | exact Or.inl rfl | exact Or.inr rfl)
    (hf : X.fn x = true ∨ X.env.scope.names.lookup x = some .local := by first | exact .inl rfl | exact .inr rfl | assumption) (hf2 : X.fn y = true ∨ X.env.scope.names.lookup y = some .local := by first | exact .inl rfl | exact .inr rfl | assumption) (hf3 : X.fn z = true ∨ X.env.scope.names.lookup z = some .local := by first | exact .inl rfl | exact .inr rfl | assumption)
    (hn : (assignEach [.Name x px, .Name y py, .Name z pz] X.env).length = 3 := by rfl) (hst : (assignEach [.Name x px, .Name y py, .Name z pz] X.env).findIdx? (·.1) = none := by rfl)
    (h1 : (assignEach [.Name x px, .Name y py, .Name z pz] X.env).map (·.2) = assign (.Name x px) X.env :: (assignEach [.Name y py, .Name z pz] X.env).map (·.2) := by rfl)
    (h2 : (assignEach [.Name y py, .Name z pz] X.env).map (·.2) = assign (.Name y py) X.env :: (assignEach [.Name z pz] X.env).map (·.2) := by rfl) (h3 : (assignEach [.Name z pz] X.env).map (·.2) = assign (.Name z pz) X.env :: (assignEach [] X.env).map (·.2) := by rfl) : WG X (.Tuple [.Name x px, .Name y py, .Name z pz] kt pos) v σ H Q := by
  obtain ⟨p, xs, rfl, hS, hA⟩ := dp_tup hd
  cases hA with
  | cons a1 hA =>
    cases hA with
    | cons a2 hA =>
      cases hA with
      | cons a3 hA =>
        cases hA
        exact go_g (pg_tup hc (pgs_cons (pg_name nd hi hx hf) (pgs_cons (pg_name nd hj hy hf2) (pgs_cons (pg_name nd hl hz hf3) pgs_nil h3) h2) h1) hn hst) ⟨p, _, rfl, sqT_at (s p) hS, rfl, _, _, rfl, _, _, rfl, _, _, rfl, rfl, h _ _ _ a1 a2 a3⟩
/-! a local list: append, extend, item stores -/
/-- the value of a name that stands in a slot, whatever it is -/
theorem we_var (i : Nat) {Q : VK} (h : Q v H) (hs : σ[i]? = some (some v) := by rfl) (hN : X.N[i]? = some x := by rfl) (hv : Vis X.env.scope x := by first | exact Or.inl rfl | exact Or.inr (Or.inl rfl) | exact Or.inr (Or.inr rfl))
    (hdb : (x == ("__debug__" : Str)) = false := by decide) (hcd : (x == ("__classdict__" : Str)) = false := by decide) : WE X (.Name x pos) σ H Q := go_e (pe_var hN hv hdb hcd) ⟨v, hs, h⟩
/-- an expression evaluated at what is known and what stands -/
def EvAt (X : Cx) (e : Expr) (σ : L2.St) (F H : Hp) (d : PyData) : Prop := ∀ Q : VK, (∀ v F' H', Nw F H F' H' → Dp X.K F' v d → Q v H') → WE X e σ H Q
theorem YE.ev (h : YE X e σ F d) (s : Same F H) : EvAt X e σ F H d := fun Q q => h H s Q q
/-- what needs no heap: told by more than is known later -/
theorem YE.evS {F1 : Hp} (h : YE X e σ F1 d) (s1 : Same F1 H) (s : Same F H) (hd : ∀ {K : PySem.W.Frag} {G G' : Hp} {v : V}, Dp K G v d → Dp K G' v d) : EvAt X e σ F H d := fun Q q => h H s1 Q fun v F2 H2 n2 dv => q v F H2 (Nw.hop s n2.h) (hd dv)
theorem sc_int {i : Int} {K : PySem.W.Frag} {G G' : Hp} {v : V} (h : Dp K G v (.int i)) : Dp K G' v (.int i) := by cases h; exact .int i
theorem sc_bl {i : Bool} {K : PySem.W.Frag} {G G' : Hp} {v : V} (h : Dp K G v (.bool i)) : Dp K G' v (.bool i) := by cases h; exact .bl i
theorem we_append {l : Addr} {xs : List V} {apos cpos : Pos} {Q : VK} (s : Same F H) (fl : F l = none) (hl : H l = some (.lst xs)) (ho : ∀ Q : VK, Q (.ref l) H → WE X o σ H Q) (he : EvAt X e σ F H d) (hz : xs.length < 100000)
    (h : ∀ u F' H', Nw F H F' H' → F' l = none → H' l = some (.lst xs) → Dp X.K F' u d → Q .non (upd H' l (.lst (xs ++ [u]))))
    (hbase : attributeBase o "append" X.env (eval o X.env) = eval o X.env := by rfl) (hfew : ((backTo cpos (starEach [e] X.env)).all (fun x => !x.1) && (backToKw cpos (keywordEach [] X.env)).all (fun x => x.1.isSome) && decide ([e].length + ([] : List Keyword).length + (if ([] : List Keyword).isEmpty then 0 else 1) < 30)) = true := by rfl)
    (hline : (apos.endLine == cpos.line) = true := by rfl) (hs : starEach [e] X.env = (false, eval e X.env) :: starEach [] X.env := by rfl) (hplain : (backTo cpos (starEach [] X.env)).any (·.1) = false := by rfl) : WE X (.Call (.Attribute o "append" apos) [e] [] cpos) σ H Q := by
  refine go_e (pe_bm PySem.F.plainAttrs_list PySem.F.slot_list_append PySem.F.type_list_append mt_append pe_we (pa_cons pe_we pa_nil hs) hbase hfew hline hs hplain) (ho _ ⟨.inl ⟨rfl, _, SqL.of hl⟩, ?_⟩)
  refine he _ fun u F2 H2 n2 du => ?_
  exact ⟨l, xs, u, rfl, rfl, n2.h l _ hl, sz4l hz, h u F2 H2 n2 (n2.out fl (by rw [hl]; exact fun q => nomatch q)) (n2.h l _ hl) du⟩
theorem we_extend {l : Addr} {xs : List V} {apos cpos : Pos} {Q : VK} (s : Same F H) (fl : F l = none) (hl : H l = some (.lst xs)) (ho : ∀ Q : VK, Q (.ref l) H → WE X o σ H Q) (he : YL X e σ F ds) (hz : xs.length + ds.length ≤ 100000)
    (h : ∀ us F' H', Nw F H F' H' → F' l = none → H' l = some (.lst xs) → DpAll X.K F' us ds → Q .non (upd H' l (.lst (xs ++ us))))
    (hbase : attributeBase o "extend" X.env (eval o X.env) = eval o X.env := by rfl) (hfew : ((backTo cpos (starEach [e] X.env)).all (fun x => !x.1) && (backToKw cpos (keywordEach [] X.env)).all (fun x => x.1.isSome) && decide ([e].length + ([] : List Keyword).length + (if ([] : List Keyword).isEmpty then 0 else 1) < 30)) = true := by rfl)
    (hline : (apos.endLine == cpos.line) = true := by rfl) (hs : starEach [e] X.env = (false, eval e X.env) :: starEach [] X.env := by rfl) (hplain : (backTo cpos (starEach [] X.env)).any (·.1) = false := by rfl) : WE X (.Call (.Attribute o "extend" apos) [e] [] cpos) σ H Q := by
  refine go_e (pe_bm PySem.F.plainAttrs_list PySem.F.slot_list_extend PySem.F.type_list_extend mt_extend pe_we (pa_cons pe_we pa_nil hs) hbase hfew hline hs hplain) (ho _ ⟨.inl ⟨rfl, _, SqL.of hl⟩, ?_⟩)
  refine he H s _ fun p us F2 H2 n2 hp fp ep du => ?_
  exact ⟨l, p, xs, us, rfl, rfl, n2.h l _ hl, ep, by rw [dpA_len du]; exact sz4 hz, h us F2 H2 n2 (n2.out fl (by rw [hl]; exact fun q => nomatch q)) (n2.h l _ hl) du⟩
/-- xs[j] += e, xs a local list of ints -/
theorem ws_augL {l : Addr} {xs : List V} {j : Nat} {m n : Int} {tpos : Pos} (s : Same F H) (fl : F l = none) (hl : H l = some (.lst xs)) (ho : ∀ Q : VK, Q (.ref l) H → WE X o σ H Q) (hi : YE X i' σ F (.int (j : Int))) (hx : xs[j]? = some (.int m)) (he : YE X e σ F (.int n))
    (h : ∀ H', Same H H' → D.nx σ (upd H' l (.lst (xs.set j (.int (m + n))))))
    (ha : ∀ ov iv new, augStore i' ov iv new = (do holding [new, ov, iv] (setItem ov iv new); release [new, ov, iv] []; pure .next) := by intros; rfl) : WS X (.AugAssign (.Subscript o i' tpos) .Add e pos) D σ H := by
  refine go_s (ps_augS pe_we pe_we pgetL pe_we ip_add set_list ha) (ho _ (hi H s _ fun y F2 H2 n2 dy => ?_))
  have h2 : H2 l = some (.lst xs) := n2.h l _ hl
  refine ⟨l, xs, j, .int m, rfl, dp_int dy, SqL.of h2, hx, ?_⟩
  refine he.mono n2.f H2 n2.i _ fun w F3 H3 n3 dw => ⟨m, n, rfl, dp_int dw, l, xs, j, j, rfl, dp_int dy, n3.h l _ h2, ?_, h H3 (n2.h.trans n3.h)⟩
  have hj := (List.getElem?_eq_some_iff.mp hx).1
  unfold ixN
  rw [if_pos (by omega), if_pos (by omega)]
  simp

/-! ### loops -/
/-- an iterator that gives these data in turn, and lays at most -/
structure Good (K : PySem.W.Frag) (J : It) (F : Hp) (ds : List PyData) : Prop where
  go : ∀ H, Same F H → ∀ i, i < ds.length → J.go i H
  yld : ∀ F1 H, Same F F1 → Same F1 H → ∀ i x H', i < ds.length → J.yld i H x H' → ∃ F' d, Nw F1 H F' H' ∧ ds[i]? = some d ∧ Dp K F' x d
  stop : ∀ H, Same F H → J.stop ds.length H
def Src (X : Cx) (tg iter : Expr) (σ : L2.St) (F : Hp) (ds : List PyData) : Prop := ∃ wi, PI X tg iter wi ∧ ∀ H, Same F H → ∀ R : It → Hp → Prop, (∀ J F' H', Nw F H F' H' → Good X.K J F' ds → R J H') → wi σ H R
theorem good_list {K : PySem.W.Frag} {p : Addr} {xs : List V} (hS : SqL K F p xs) (hA : DpAll K F xs ds) : Good K (Itl K p) F ds where
  go H s i hi := by
    obtain ⟨v, hv, _⟩ := dpA_get hA (List.getElem?_eq_getElem hi)
    exact ⟨xs, v, sqL_at (s p) hS, hv⟩
  yld F1 H s1 s2 i x H' hi y := by
    obtain ⟨e, y⟩ := y
    subst e
    have hx := y xs (sqL_at ((s1.trans s2) p) hS)
    obtain ⟨d, hd, dv⟩ := dpA_at hA hx
    exact ⟨F1, d, Nw.refl s2, hd, Dpx dv s1⟩
  stop H s := ⟨xs, sqL_at (s p) hS, by rw [dpA_len hA]; exact Nat.le_refl _⟩
theorem good_tup {K : PySem.W.Frag} {p : Addr} {xs : List V} (hS : SqT K F p xs) (hA : DpAll K F xs ds) : Good K (Itt K p) F ds where
  go H s i hi := by
    obtain ⟨v, hv, _⟩ := dpA_get hA (List.getElem?_eq_getElem hi)
    exact ⟨xs, v, sqT_at (s p) hS, hv⟩
  yld F1 H s1 s2 i x H' hi y := by
    obtain ⟨e, y⟩ := y
    subst e
    have hx := y xs (sqT_at ((s1.trans s2) p) hS)
    obtain ⟨d, hd, dv⟩ := dpA_at hA hx
    exact ⟨F1, d, Nw.refl s2, hd, Dpx dv s1⟩
  stop H s := ⟨xs, sqT_at (s p) hS, by rw [dpA_len hA]; exact Nat.le_refl _⟩
/-- lo, lo + 1, .., n of them -/
def rngD (lo n : Nat) : List PyData := (List.range n).map fun i => .int ((lo + i : Nat) : Int)
theorem rngD_len (lo n : Nat) : (rngD lo n).length = n := by unfold rngD; rw [List.length_map, List.length_range]
theorem rngD_at {lo n i : Nat} (h : i < n) : (rngD lo n)[i]? = some (.int ((lo + i : Nat) : Int)) := by
  unfold rngD
  rw [List.getElem?_map, List.getElem?_range h]
  rfl
theorem rngD_mem {lo n : Nat} {d : PyData} (h : d ∈ rngD lo n) : ∃ i, i < n ∧ d = .int ((lo + i : Nat) : Int) := by
  obtain ⟨i, hi, e⟩ := List.mem_map.mp h
  exact ⟨i, List.mem_range.mp hi, e.symm⟩
theorem good_rng {K : PySem.W.Frag} {lo n : Nat} : Good K (Itr (lo : Int) n) F (rngD lo n) where
  go H s i hi := by rw [rngD_len] at hi; exact hi
  yld F1 H s1 s2 i x H' hi y := by
    rw [rngD_len] at hi
    obtain ⟨e, rfl⟩ := y
    subst e
    exact ⟨F1, _, Nw.refl s2, rngD_at hi, by rw [show ((lo + i : Nat) : Int) = (lo : Int) + i by omega]; exact .int _⟩
  stop H s := by rw [rngD_len]; exact Nat.le_refl n
/-- the pairs of number and item -/
def enD (ds : List PyData) : List PyData := (List.range ds.length).map fun (i : Nat) => .tuple [.int (i : Int), ds.getD i .none]
theorem enD_len : (enD ds).length = ds.length := by unfold enD; rw [List.length_map, List.length_range]
theorem enD_at {i : Nat} (h : ds[i]? = some d) : (enD ds)[i]? = some (.tuple [.int (i : Int), d]) := by
  have hi := (List.getElem?_eq_some_iff.mp h).1
  unfold enD
  rw [List.getElem?_map, List.getElem?_range hi]
  show some (PyData.tuple [.int (i : Int), ds.getD i .none]) = some _
  rw [List.getD_eq_getElem?_getD, h]
  rfl
theorem good_enT {K : PySem.W.Frag} {p : Addr} {xs : List V} (hS : SqT K F p xs) (hA : DpAll K F xs ds) : Good K (IteT K p) F (enD ds) where
  go H s i hi := by
    rw [enD_len] at hi
    obtain ⟨v, hv, _⟩ := dpA_get hA (List.getElem?_eq_getElem hi)
    exact ⟨xs, v, sqT_at (s p) hS, hv⟩
  yld F1 H s1 s2 i x H' hi y := by
    obtain ⟨T, u, rfl, hT, rfl, y⟩ := y
    have hx := y xs (sqT_at ((s1.trans s2) p) hS)
    obtain ⟨d, hd, dv⟩ := dpA_at hA hx
    exact ⟨_, _, Nw.put s2 hT, enD_at hd, .tup (sqT_of upd_same) (.cons (.int _) (.cons (Dpx dv (s1.trans (same_new (s2.free hT)))) .nil))⟩
  stop H s := ⟨xs, sqT_at (s p) hS, by rw [dpA_len hA, enD_len]; exact Nat.le_refl _⟩
/-- the pairs of two tuples of one length -/
def zpD (ds es : List PyData) : List PyData := (List.range ds.length).map fun (i : Nat) => .tuple [ds.getD i .none, es.getD i .none]
theorem zpD_len {ds es : List PyData} : (zpD ds es).length = ds.length := by unfold zpD; rw [List.length_map, List.length_range]
theorem zpD_at {ds es : List PyData} {i : Nat} (h : ds[i]? = some d) (h2 : es[i]? = some d1) : (zpD ds es)[i]? = some (.tuple [d, d1]) := by
  have hi := (List.getElem?_eq_some_iff.mp h).1
  unfold zpD
  rw [List.getElem?_map, List.getElem?_range hi]
  show some (PyData.tuple [ds.getD i .none, es.getD i .none]) = some _
  rw [List.getD_eq_getElem?_getD, List.getD_eq_getElem?_getD, h, h2]
  rfl
theorem good_zipT {K : PySem.W.Frag} {p q : Addr} {xs ys : List V} {es : List PyData} (hl : ds.length = es.length) (hS : SqT K F p xs) (hA : DpAll K F xs ds) (hS2 : SqT K F q ys) (hA2 : DpAll K F ys es) : Good K (RZ.ItzT K p q) F (zpD ds es) where
  go H s i hi := by
    rw [zpD_len] at hi
    obtain ⟨v, hv, _⟩ := dpA_get hA (List.getElem?_eq_getElem hi)
    obtain ⟨u, hu, _⟩ := dpA_get hA2 (List.getElem?_eq_getElem (by omega : i < es.length))
    exact ⟨xs, ys, v, u, sqT_at (s p) hS, sqT_at (s q) hS2, hv, hu⟩
  yld F1 H s1 s2 i x H' hi y := by
    obtain ⟨T, u, w, rfl, hT, rfl, y1, y2⟩ := y
    have hx := y1 xs (sqT_at ((s1.trans s2) p) hS)
    have hy := y2 ys (sqT_at ((s1.trans s2) q) hS2)
    obtain ⟨d, hd, dv⟩ := dpA_at hA hx
    obtain ⟨d', hd', dv'⟩ := dpA_at hA2 hy
    have s3 := s1.trans (same_new (o := .tup [u, w]) (s2.free hT))
    exact ⟨_, _, Nw.put s2 hT, zpD_at hd hd', .tup (sqT_of upd_same) (.cons (Dpx dv s3) (.cons (Dpx dv' s3) .nil))⟩
  stop H s := ⟨xs, ys, sqT_at (s p) hS, sqT_at (s q) hS2, .inl (by rw [dpA_len hA, zpD_len]; exact Nat.le_refl _)⟩
theorem src_list {tg l : Expr} (h : YE X l σ F (.list ds)) : Src X tg l σ F ds := ⟨_, pi_list pe_we, fun H s R hR => h H s _ fun x F2 H2 n2 dx => by
  obtain ⟨p, xs, rfl, hS, hA⟩ := dp_lst dx
  exact ⟨p, rfl, ⟨xs, sqL_at (n2.i p) hS⟩, hR _ F2 H2 n2 (good_list hS hA)⟩⟩
theorem src_tup {tg l : Expr} (h : YE X l σ F (.tuple ds)) : Src X tg l σ F ds := ⟨_, pi_tup pe_we, fun H s R hR => h H s _ fun x F2 H2 n2 dx => by
  obtain ⟨p, xs, rfl, hS, hA⟩ := dp_tup dx
  exact ⟨p, rfl, ⟨xs, sqT_at (n2.i p) hS⟩, hR _ F2 H2 n2 (good_tup hS hA)⟩⟩
theorem src_rng1 {tg : Expr} {p pos : Pos} {n : Nat} (hm : X.mg "range" = none) (h : YA X [e] σ F [.int (n : Int)]) (hn : n ≤ 100000) (hg : Gl X "range" := by rfl) (hs : starEach [e] X.env = [(false, eval e X.env)] := by rfl) : Src X tg (.Call (.Name "range" p) [e] [] pos) σ F (rngD 0 n) :=
  ⟨_, pi_range1 hg hm pa_wa hs, fun H s R hR => h H s _ fun vs F2 H2 n2 dvs => by
    cases dvs with
    | cons h1 h2 =>
      cases h2
      cases h1
      exact ⟨n, rfl, by omega, by omega, hR _ F2 H2 n2 (by rw [Int.toNat_natCast]; exact good_rng)⟩⟩
theorem src_rng2 {tg : Expr} {p pos : Pos} {lo n : Nat} (hm : X.mg "range" = none) (h : YA X [a, b] σ F [.int (lo : Int), .int ((lo : Int) + (n : Int))]) (hn : lo + n ≤ 100000) (hg : Gl X "range" := by rfl) (hs : starEach [a, b] X.env = [(false, eval a X.env), (false, eval b X.env)] := by rfl) (hpl : starEach [b] X.env = [(false, eval b X.env)] := by rfl) : Src X tg (.Call (.Name "range" p) [a, b] [] pos) σ F (rngD lo n) :=
  ⟨_, pi_range2 hg hm pa_wa hs hpl, fun H s R hR => h H s _ fun vs F2 H2 n2 dvs => by
    cases dvs with
    | cons h1 h2 =>
      cases h2 with
      | cons h3 h4 =>
        cases h4
        cases h1
        cases h3
        refine ⟨lo, (lo : Int) + n, rfl, by omega, hR _ F2 H2 n2 ?_⟩
        rw [show ((lo : Int) + n - lo).toNat = n by omega]
        exact good_rng⟩
/-- a range whose upper end lies below its lower one, or at it -/
theorem src_rng0 {tg : Expr} {p pos : Pos} {lo hi : Int} (hm : X.mg "range" = none) (h : YA X [a, b] σ F [.int lo, .int hi]) (hn : hi ≤ lo ∧ -100000 ≤ hi ∧ lo ≤ 100000) (hg : Gl X "range" := by rfl) (hs : starEach [a, b] X.env = [(false, eval a X.env), (false, eval b X.env)] := by rfl) (hpl : starEach [b] X.env = [(false, eval b X.env)] := by rfl) : Src X tg (.Call (.Name "range" p) [a, b] [] pos) σ F [] :=
  ⟨_, pi_range2 hg hm pa_wa hs hpl, fun H s R hR => h H s _ fun vs F2 H2 n2 dvs => by
    cases dvs with
    | cons h1 h2 =>
      cases h2 with
      | cons h3 h4 =>
        cases h4
        cases h1
        cases h3
        refine ⟨lo, hi, rfl, by omega, hR _ F2 H2 n2 ?_⟩
        rw [show (hi - lo).toNat = 0 by omega]
        exact ⟨fun H s i hi => absurd hi (Nat.not_lt_zero _), fun F1 H s1 s2 i x H' hi y => absurd hi (Nat.not_lt_zero _), fun H s => Nat.le_refl 0⟩⟩
theorem src_enT {elts : List Expr} {kk : Nat} {tpos p pos : Pos} (hm : X.mg "enumerate" = none) (h : YA X [e] σ F [.tuple ds]) (hg : Gl X "enumerate" := by rfl) (hs : starEach [e] X.env = [(false, eval e X.env)] := by rfl) : Src X (.Tuple elts kk tpos) (.Call (.Name "enumerate" p) [e] [] pos) σ F (enD ds) :=
  ⟨_, pi_enT hg hm pa_wa hs, fun H s R hR => h H s _ fun vs F2 H2 n2 dvs => by
    cases dvs with
    | cons h1 h2 =>
      cases h2
      obtain ⟨p, xs, rfl, hS, hA⟩ := dp_tup h1
      exact ⟨p, xs, rfl, sqT_at (n2.i p) hS, hR _ F2 H2 n2 (good_enT hS hA)⟩⟩
theorem src_zipT {elts : List Expr} {kk : Nat} {tpos p pos : Pos} {es : List PyData} (hl : ds.length = es.length) (hm : X.mg "zip" = none) (h : YA X [a, b] σ F [.tuple ds, .tuple es]) (hg : Gl X "zip" := by rfl) (hs : starEach [a, b] X.env = (false, eval a X.env) :: starEach [b] X.env := by rfl) (hpl : (backTo pos (starEach [b] X.env)).any (·.1) = false := by rfl) : Src X (.Tuple elts kk tpos) (.Call (.Name "zip" p) [a, b] [] pos) σ F (zpD ds es) :=
  ⟨_, RZ.pi_zipA hg hm pa_wa hs hpl, fun H s R hR => h H s _ fun vs F2 H2 n2 dvs => by
    cases dvs with
    | cons h1 h2 =>
      cases h2 with
      | cons h3 h4 =>
        cases h4
        obtain ⟨p, xs, rfl, hS, hA⟩ := dp_tup h1
        obtain ⟨q, ys, rfl, hS2, hA2⟩ := dp_tup h3
        exact ⟨p, q, xs, ys, rfl, .inr ⟨sqT_at (n2.i p) hS, sqT_at (n2.i q) hS2, hR _ F2 H2 n2 (good_zipT hl hS hA hS2 hA2)⟩⟩⟩
/-- a for loop: Pv i what is known, what stands, the slots ahead of the i-th turn -/
theorem ws_for {iter : Expr} (hp : PassesOwn (model X.prog X.w) X.A X.env X.xe) (hc : X.calm = true) (S : Src X tg iter σ F ds) (s : Same F H)
    (h : ∀ F0 H0, Nw F H F0 H0 → ∃ Pv : Nat → Hp → L2.St → Hp → Prop, Pv 0 F0 σ H0 ∧ (∀ i F1 σ1 H1, Pv i F1 σ1 H1 → Same F0 F1 ∧ Same F1 H1) ∧
      (∀ i d F1 σ1 H1 F2 H2 u, ds[i]? = some d → Pv i F1 σ1 H1 → Nw F1 H1 F2 H2 → Dp X.K F2 u d → WG X tg u σ1 H2 fun σ2 H3 => WSs X body { D with nx := fun σ' H' => ∃ F', Pv (i + 1) F' σ' H', ct := fun σ' H' => ∃ F', Pv (i + 1) F' σ' H', bk := D.nx } σ2 H3) ∧
      ∀ F1 σ1 H1, Pv ds.length F1 σ1 H1 → D.nx σ1 H1)
    (hs : ∀ x, foldedSetIterable iter X.env x = pure x := by intro _; rfl) : WS X (.For tg iter body [] pos) D σ H := by
  obtain ⟨wi, hi, hw⟩ := S
  refine go_s (ps_for hp hc hi pg_wg pss_ws hs) (hw H s _ fun J F0 H0 n0 g => ?_)
  obtain ⟨Pv, p0, ps, pt, pd⟩ := h F0 H0 n0
  refine ⟨fun i m σ1 H1 => m = ds.length - i ∧ i ≤ ds.length ∧ ∃ F1, Pv i F1 σ1 H1, ⟨ds.length, by simp, Nat.zero_le _, F0, p0⟩, ?_⟩
  rintro i m σ1 H1 ⟨rfl, hi', F1, p⟩
  obtain ⟨s1, s2⟩ := ps i F1 σ1 H1 p
  by_cases hlt : i < ds.length
  · refine .inr ⟨g.go H1 (s1.trans s2) i hlt, fun σ' H' => ∃ F', Pv (i + 1) F' σ' H', fun σ' H' q => ⟨ds.length - (i + 1), by omega, rfl, hlt, q⟩, fun u H2 y => ?_⟩
    obtain ⟨F2, d, n2, hd, dv⟩ := g.yld F1 H1 s1 s2 i u H2 hlt y
    exact pt i d F1 σ1 H1 F2 H2 u hd p n2 dv
  · have e : i = ds.length := by omega
    subst e
    exact .inl ⟨g.stop H1 (s1.trans s2), pd F1 σ1 H1 p⟩
end

/-! ### comprehensions -/
section
variable {X : Cx} {σ : L2.St} {F F' H H' : Hp} {D : Ends} {elt e tg iter : Expr} {ifs : List Expr} {pos pos' : Pos} {d d1 : PyData} {ds : List PyData} {k : Bool} {x y : Str} {scope : Scope} {own : List (Str × Nat)}
abbrev bk (X : Cx) (scope : Scope) (s0 : Shared) (H0 : Hp) (C : Addr) (cl : List (Str × Addr)) (fp : List Addr) : Cx := X.blk s0 H0 scope (compEnvC scope cl C X.env) fp
/-- what a comprehension gives: the items that pass f, each turned by g -/
theorem lc_read {K : PySem.W.Frag} {wi : TI} {gg : TG} {tt : TT} {te : TE} {vs : List Nat} (hw : ∀ H, Same F H → ∀ R : It → Hp → Prop, (∀ J F' H', Nw F H F' H' → Good K J F' ds → R J H') → wi σ H R) (hl : ds.length ≤ 90000) (f : PyData → Bool) (g : PyData → PyData)
    (ht : ∀ d F1 H1 u, d ∈ ds → Same F F1 → Same F1 H1 → Dp K F1 u d → ∃ σ2, (∀ Q : L2.St → Hp → Prop, Q σ2 H1 → gg u (wipe σ vs) H1 Q) ∧ wipe σ2 vs = wipe σ vs ∧ (∀ Q : Bool → Hp → Prop, (∀ H2, Same H1 H2 → Q (f d) H2) → tt σ2 H1 Q) ∧
      (f d = true → ∀ H2, Same F1 H2 → ∀ Q : VK, (∀ v F3 H3, Nw F1 H2 F3 H3 → Dp K F3 v (g d) → Q v H3) → te σ2 H2 Q))
    (H : Hp) (s : Same F H) (Q : VK) (q : ∀ p xs F' H', Nw F H F' H' → H p = none → F' p = none → H' p = some (.lst xs) → DpAll K F' xs ((ds.filter f).map g) → Q (.ref p) H') : tLc wi gg tt te vs σ H Q := by
  refine hw H s _ fun J F0 H0 n0 gd => fun Dl hD => ?_
  have f0 : F0 Dl = none := n0.i.free hD
  refine ⟨fun i m H' => m = ds.length - i ∧ i ≤ ds.length ∧ ∃ F1 xs, Nw F0 H0 F1 H' ∧ F1 Dl = none ∧ H' Dl = some (.lst xs) ∧ DpAll K F1 xs (((ds.take i).filter f).map g),
    ⟨ds.length, by simp, Nat.zero_le _, F0, [], ⟨same_new hD, Same.refl _, same_mut n0.i f0, fun b z => .inl z⟩, f0, upd_same, .nil⟩, ?_⟩
  rintro i m H1 ⟨rfl, hi, F1, xs, n1, f1, e1, a1⟩
  by_cases hlt : i < ds.length
  · refine .inr ⟨gd.go H1 (n1.f.trans n1.i) i hlt, fun H' => ∃ F1 xs, Nw F0 H0 F1 H' ∧ F1 Dl = none ∧ H' Dl = some (.lst xs) ∧ DpAll K F1 xs (((ds.take (i + 1)).filter f).map g), fun H' z => ⟨ds.length - (i + 1), by omega, rfl, hlt, z⟩, fun u H2 y => ?_⟩
    obtain ⟨F2, d, n2, hd, du⟩ := gd.yld F1 H1 n1.f n1.i i u H2 hlt y
    obtain ⟨σ2, hg, hwp, htt, hte⟩ := ht d F2 H2 u (List.mem_of_getElem? hd) ((n0.f.trans n1.f).trans n2.f) n2.i du
    refine hg _ ⟨hwp, htt _ fun H3 s3 => ?_⟩
    have f2 : F2 Dl = none := n2.out f1 (by rw [e1]; exact fun z => nomatch z)
    have tk : ds.take (i + 1) = ds.take i ++ [d] := by rw [List.take_add_one, hd]; rfl
    have e3 : H3 Dl = some (.lst xs) := s3 Dl _ (n2.h Dl _ e1)
    cases hf : f d with
    | false =>
      refine iteF ⟨F2, xs, (n1.trans n2).trans (Nw.hop n2.i s3), f2, e3, ?_⟩
      rw [tk, List.filter_append, List.filter_cons, if_neg (by rw [hf]; decide), List.filter_nil, List.append_nil]
      exact DpAx a1 n2.f
    | true =>
      refine iteT (hte hf H3 (n2.i.trans s3) _ fun v F4 H4 n4 dv => ⟨xs, n4.h Dl _ e3, ?_, F4, xs ++ [v], ?_, ?_, upd_same, ?_⟩)
      · refine sz4l (Nat.lt_of_le_of_lt (?_ : xs.length ≤ i) (by omega))
        rw [dpA_len a1, List.length_map]
        exact Nat.le_trans (List.length_filter_le _ _) (by rw [List.length_take]; exact Nat.min_le_left _ _)
      · have n := ((n1.trans n2).trans (Nw.hop n2.i s3)).trans n4
        have f4 : F4 Dl = none := n4.out f2 (by rw [e3]; exact fun z => nomatch z)
        exact ⟨same_mut n.h hD, n.f, same_mut n.i f4, n.n⟩
      · exact n4.out f2 (by rw [e3]; exact fun z => nomatch z)
      · rw [tk, List.filter_append, List.map_append, List.filter_cons, if_pos hf]
        exact dpA_app (DpAx a1 (n2.f.trans n4.f)) (dpA_one dv)
  · have e : i = ds.length := by omega
    subst e
    rw [List.take_length] at a1
    refine .inl ⟨gd.stop H1 (n1.f.trans n1.i), q Dl xs F1 H1 (n0.trans n1) (n0.h.free hD) f1 e1 a1⟩

/-- one turn of a comprehension without test, with one -/
def Tn (X : Cx) (scope : Scope) (tg : Expr) (σ : L2.St) (vs : List Nat) (F : Hp) (d : PyData) (P : Cx → L2.St → Hp → Prop) : Prop :=
  ∀ F1 H1 u, Same F F1 → Same F1 H1 → Dp X.K F1 u d → ∃ σ2, (∀ (s0 : Shared) (H0 : Hp) (C : Addr) (cl : List (Str × Addr)) (fp : List Addr) (Q : L2.St → Hp → Prop), Q σ2 H1 → WG (bk X scope s0 H0 C cl fp) tg u (wipe σ vs) H1 Q) ∧ wipe σ2 vs = wipe σ vs ∧
    ∀ (s0 : Shared) (H0 : Hp) (C : Addr) (cl : List (Str × Addr)) (fp : List Addr), P (bk X scope s0 H0 C cl fp) σ2 F1
theorem yl_comp (hc : X.calm = true) (nd : X.N.Nodup) (S : Src X tg iter σ F ds) (ok : BlkOk X.N X.env.scope scope own) (hl : ds.length ≤ 90000) (g : PyData → PyData)
    (ht : ∀ d ∈ ds, Tn X scope tg σ (own.map (·.2)) F d fun Y σ2 F1 => YE Y elt σ2 F1 (g d)) (hs : ∀ x, foldedSetIterable iter X.env x = pure x := by intro _; rfl) : YL X (.ListComp elt [⟨tg, iter, [], 0⟩] scope pos) σ F (ds.map g) := fun H s Q q => by
  obtain ⟨wi, hi, hw⟩ := S
  refine go_e (pe_lc (g := fun v σ H Q => ∀ s0 H0 C cl fp, WG (bk X scope s0 H0 C cl fp) tg v σ H Q) (te := fun σ H Q => ∀ s0 H0 C cl fp, WE (bk X scope s0 H0 C cl fp) elt σ H Q) hc nd hi ok
    (fun s0 H0 C cl fp => ⟨fun pins s σ H v u Q I r h => h s0 H0 C cl fp pins s u I r⟩) (fun _ _ _ _ _ => pts_nil) (fun s0 H0 C cl fp => ⟨fun pins s σ H Q I h => h s0 H0 C cl fp pins s I⟩) hs) ?_
  refine lc_read hw hl (fun _ => true) g (fun d F1 H1 u hd s1 s2 du => ?_) H s Q (by rw [List.filter_eq_self.mpr (fun _ _ => rfl)]; exact q)
  obtain ⟨σ2, h1, h2, h3⟩ := ht d hd F1 H1 u s1 s2 du
  exact ⟨σ2, fun Q z s0 H0 C cl fp => h1 s0 H0 C cl fp Q z, h2, fun Q z => z H1 (Same.refl _), fun _ H2 s3 Q z s0 H0 C cl fp => h3 s0 H0 C cl fp H2 s3 Q z⟩
theorem yl_compT {c : Expr} (hc : X.calm = true) (nd : X.N.Nodup) (S : Src X tg iter σ F ds) (ok : BlkOk X.N X.env.scope scope own) (hl : ds.length ≤ 90000) (f : PyData → Bool) (g : PyData → PyData)
    (ht : ∀ d ∈ ds, Tn X scope tg σ (own.map (·.2)) F d fun Y σ2 F1 => YT Y c σ2 F1 (f d) ∧ (f d = true → YE Y elt σ2 F1 (g d))) (hs : ∀ x, foldedSetIterable iter X.env x = pure x := by intro _; rfl) : YL X (.ListComp elt [⟨tg, iter, [c], 0⟩] scope pos) σ F ((ds.filter f).map g) := fun H s Q q => by
  obtain ⟨wi, hi, hw⟩ := S
  refine go_e (pe_lc (g := fun v σ H Q => ∀ s0 H0 C cl fp, WG (bk X scope s0 H0 C cl fp) tg v σ H Q) (tt := fun σ H Q => ∀ s0 H0 C cl fp, WT (bk X scope s0 H0 C cl fp) c σ H Q) (te := fun σ H Q => ∀ s0 H0 C cl fp, WE (bk X scope s0 H0 C cl fp) elt σ H Q) hc nd hi ok
    (fun s0 H0 C cl fp => ⟨fun pins s σ H v u Q I r h => h s0 H0 C cl fp pins s u I r⟩) (fun s0 H0 C cl fp => pts_one ⟨fun pins s σ H Q I h => h s0 H0 C cl fp pins s I⟩) (fun s0 H0 C cl fp => ⟨fun pins s σ H Q I h => h s0 H0 C cl fp pins s I⟩) hs) ?_
  refine lc_read hw hl f g (fun d F1 H1 u hd s1 s2 du => ?_) H s Q q
  obtain ⟨σ2, h1, h2, h3⟩ := ht d hd F1 H1 u s1 s2 du
  exact ⟨σ2, fun Q z s0 H0 C cl fp => h1 s0 H0 C cl fp Q z, h2, fun Q z s0 H0 C cl fp => (h3 s0 H0 C cl fp).1 H1 s2 Q z, fun e H2 s3 Q z s0 H0 C cl fp => (h3 s0 H0 C cl fp).2 e H2 s3 Q z⟩
/-- name = [..] on one line -/
theorem ws_setLc (i : Nat) {py spos : Pos} (hc : X.calm = true) (nd : X.N.Nodup) (s : Same F H) (S : Src X tg iter σ F ds) (ok : BlkOk X.N X.env.scope scope own) (hl : ds.length ≤ 90000) (g : PyData → PyData)
    (ht : ∀ d ∈ ds, Tn X scope tg σ (own.map (·.2)) F d fun Y σ2 F1 => YE Y elt σ2 F1 (g d)) (q : ∀ p xs F' H', Nw F H F' H' → H p = none → F' p = none → H' p = some (.lst xs) → DpAll X.K F' xs (ds.map g) → D.nx (σ.set i (some (.ref p))) H')
    (hsw : swapsWith (.ListComp elt [⟨tg, iter, [], 0⟩] scope pos) (some (.Name y py)) spos.line X.env = pure true) (hy : X.N[i]? = some y := by rfl) (hyl : X.env.scope.names.lookup y = some .local := by rfl) (hs : ∀ x, foldedSetIterable iter X.env x = pure x := by intro _; rfl) :
    WS X (.Assign [.Name y py] (.ListComp elt [⟨tg, iter, [], 0⟩] scope pos) spos) D σ H := by
  obtain ⟨wi, hi, hw⟩ := S
  refine go_s (ps_setLc (g := fun v σ H Q => ∀ s0 H0 C cl fp, WG (bk X scope s0 H0 C cl fp) tg v σ H Q) (te := fun σ H Q => ∀ s0 H0 C cl fp, WE (bk X scope s0 H0 C cl fp) elt σ H Q) hc nd hy hyl hsw hi ok
    (fun s0 H0 C cl fp => ⟨fun pins s σ H v u Q I r h => h s0 H0 C cl fp pins s u I r⟩) (fun _ _ _ _ _ => pts_nil) (fun s0 H0 C cl fp => ⟨fun pins s σ H Q I h => h s0 H0 C cl fp pins s I⟩) hs) ?_
  refine lc_read hw hl (fun _ => true) g (fun d F1 H1 u hd s1 s2 du => ?_) H s _ (by rw [List.filter_eq_self.mpr (fun _ _ => rfl)]; exact q)
  obtain ⟨σ2, h1, h2, h3⟩ := ht d hd F1 H1 u s1 s2 du
  exact ⟨σ2, fun Q z s0 H0 C cl fp => h1 s0 H0 C cl fp Q z, h2, fun Q z => z H1 (Same.refl _), fun _ H2 s3 Q z s0 H0 C cl fp => h3 s0 H0 C cl fp H2 s3 Q z⟩
theorem ws_setLcT (i : Nat) {c : Expr} {py spos : Pos} (hc : X.calm = true) (nd : X.N.Nodup) (s : Same F H) (S : Src X tg iter σ F ds) (ok : BlkOk X.N X.env.scope scope own) (hl : ds.length ≤ 90000) (f : PyData → Bool) (g : PyData → PyData)
    (ht : ∀ d ∈ ds, Tn X scope tg σ (own.map (·.2)) F d fun Y σ2 F1 => YT Y c σ2 F1 (f d) ∧ (f d = true → YE Y elt σ2 F1 (g d))) (q : ∀ p xs F' H', Nw F H F' H' → H p = none → F' p = none → H' p = some (.lst xs) → DpAll X.K F' xs ((ds.filter f).map g) → D.nx (σ.set i (some (.ref p))) H')
    (hsw : swapsWith (.ListComp elt [⟨tg, iter, [c], 0⟩] scope pos) (some (.Name y py)) spos.line X.env = pure true) (hy : X.N[i]? = some y := by rfl) (hyl : X.env.scope.names.lookup y = some .local := by rfl) (hs : ∀ x, foldedSetIterable iter X.env x = pure x := by intro _; rfl) :
    WS X (.Assign [.Name y py] (.ListComp elt [⟨tg, iter, [c], 0⟩] scope pos) spos) D σ H := by
  obtain ⟨wi, hi, hw⟩ := S
  refine go_s (ps_setLc (g := fun v σ H Q => ∀ s0 H0 C cl fp, WG (bk X scope s0 H0 C cl fp) tg v σ H Q) (tt := fun σ H Q => ∀ s0 H0 C cl fp, WT (bk X scope s0 H0 C cl fp) c σ H Q) (te := fun σ H Q => ∀ s0 H0 C cl fp, WE (bk X scope s0 H0 C cl fp) elt σ H Q) hc nd hy hyl hsw hi ok
    (fun s0 H0 C cl fp => ⟨fun pins s σ H v u Q I r h => h s0 H0 C cl fp pins s u I r⟩) (fun s0 H0 C cl fp => pts_one ⟨fun pins s σ H Q I h => h s0 H0 C cl fp pins s I⟩) (fun s0 H0 C cl fp => ⟨fun pins s σ H Q I h => h s0 H0 C cl fp pins s I⟩) hs) ?_
  refine lc_read hw hl f g (fun d F1 H1 u hd s1 s2 du => ?_) H s _ q
  obtain ⟨σ2, h1, h2, h3⟩ := ht d hd F1 H1 u s1 s2 du
  exact ⟨σ2, fun Q z s0 H0 C cl fp => h1 s0 H0 C cl fp Q z, h2, fun Q z s0 H0 C cl fp => (h3 s0 H0 C cl fp).1 H1 s2 Q z, fun e H2 s3 Q z s0 H0 C cl fp => (h3 s0 H0 C cl fp).2 e H2 s3 Q z⟩
/-- a turn's target: one name, two names -/
theorem tn1 (j : Nat) {vs : List Nat} {P : Cx → L2.St → Hp → Prop} (nd : X.N.Nodup) (hw : ∀ u, wipe ((wipe σ vs).set j (some u)) vs = wipe σ vs)
    (h : ∀ F1 u, Same F F1 → Dp X.K F1 u d → ∀ (s0 : Shared) (H0 : Hp) (C : Addr) (cl : List (Str × Addr)) (fp : List Addr), P (bk X scope s0 H0 C cl fp) ((wipe σ vs).set j (some u)) F1)
    (hg : ∀ (s0 : Shared) (H0 : Hp) (C : Addr) (cl : List (Str × Addr)) (fp : List Addr), PG (bk X scope s0 H0 C cl fp) (.Name x pos) (gName j)) : Tn X scope (.Name x pos) σ vs F d P := fun F1 H1 u s1 s2 du =>
  ⟨(wipe σ vs).set j (some u), fun s0 H0 C cl fp Q z => go_g (hg s0 H0 C cl fp) z, hw u, h F1 u s1 du⟩
theorem tn2 (i j : Nat) {px py : Pos} {kt : Nat} {vs : List Nat} {P : Cx → L2.St → Hp → Prop} (hc : X.calm = true) (hw : ∀ u w, wipe (((wipe σ vs).set i (some u)).set j (some w)) vs = wipe σ vs)
    (h : ∀ F1 u w, Same F F1 → Dp X.K F1 u d → Dp X.K F1 w d1 → ∀ (s0 : Shared) (H0 : Hp) (C : Addr) (cl : List (Str × Addr)) (fp : List Addr), P (bk X scope s0 H0 C cl fp) (((wipe σ vs).set i (some u)).set j (some w)) F1)
    (hg : ∀ (s0 : Shared) (H0 : Hp) (C : Addr) (cl : List (Str × Addr)) (fp : List Addr), PG (bk X scope s0 H0 C cl fp) (.Tuple [.Name x px, .Name y py] kt pos) (gTup X.K 2 (gCons (gName i) (gCons (gName j) gNil)))) : Tn X scope (.Tuple [.Name x px, .Name y py] kt pos) σ vs F (.tuple [d, d1]) P := fun F1 H1 u s1 s2 du => by
  obtain ⟨p, xs, rfl, hS, hA⟩ := dp_tup du
  cases hA with
  | cons a1 hA =>
    cases hA with
    | cons a2 hA =>
      cases hA
      exact ⟨_, fun s0 H0 C cl fp Q z => go_g (hg s0 H0 C cl fp) ⟨p, _, rfl, sqT_at (s2 p) hS, rfl, _, _, rfl, _, _, rfl, rfl, z⟩, hw _ _, h F1 _ _ s1 a1 a2⟩
end

/-! ### isinstance -/
section
variable {X : Cx} {σ : L2.St} {F H : Hp} {a e : Expr} {es : List Expr} {pos : Pos} {d : PyData} {ds : List PyData} {k : Bool}
def tyD : PyData → String
  | .none => "NoneType"
  | .bool _ => "bool"
  | .int _ => "int"
  | .str _ => "str"
  | .list _ => "list"
  | .tuple _ => "tuple"
  | .dict _ => "dict"
theorem tyx {K : PySem.W.Frag} {v : V} (h : Dp K H v d) : TyX K H v (.type (tyD d)) := by
  cases h with
  | non => exact .base .non
  | bl b => exact .base (.bl b)
  | int i => exact .base (.int i)
  | str x => exact .base (.str x)
  | lst h1 h2 =>
    rcases h1 with (z | ⟨o, z⟩) | ⟨o, its, n, z, z2, _⟩
    · exact .base (.lst z)
    · exact .base (.frz z)
    · exact .kList z z2
  | tup h1 h2 =>
    rcases h1 with (z | ⟨o, z⟩) | ⟨o, its, n, z, z2, _⟩
    · exact .base (.tup z)
    · exact .fTuple z
    · exact .kTuple z z2
/-- isinstance(e, T) -/
theorem ye_isi {T : String} {Tn : Str} {p p2 : Pos} (hm : X.mg "isinstance" = none) (hmT : X.mg Tn = none) (hvT : bootBuiltins Tn = some (.type T)) (ha : YE X a σ F d) (hk : kitB (tyD d) T = some k) (hg : Gl X "isinstance" := by rfl) (hgT : Gl X Tn := by rfl) (hnT : Tn ≠ "__name__" := by decide) (hdT : (Tn == ("__debug__" : Str)) = false := by decide)
    (he : starEach [a, .Name Tn p2] X.env = (false, eval a X.env) :: starEach [.Name Tn p2] X.env := by rfl) (he2 : starEach [.Name Tn p2] X.env = (false, eval (.Name Tn p2) X.env) :: starEach [] X.env := by rfl) (hpl : (backTo pos (starEach [.Name Tn p2] X.env)).any (·.1) = false := by rfl) :
    YE X (.Call (.Name "isinstance" p) [a, .Name Tn p2] [] pos) σ F (.bool k) := fun H s Q q =>
  go_e (pe_callB call_isi hg hm PyProof.Rows.boot_isinstance (pa_cons pe_we (pa_cons (pe_bltn (v := .ty T) hgT hmT hvT rfl hnT hdT) pa_nil he2) he) (by decide) (by decide) he hpl)
    (ha H s _ fun v F2 H2 n2 dv => ⟨v, .ty T, _, _, k, rfl, .ty T, tyx (Dpx dv n2.i), kit_ty hk, q _ F2 H2 n2 (.bl _)⟩)
/-- isinstance(e, (T1, T2)) -/
theorem ye_isi2 {T1 T2 : String} {N1 N2 : Str} {k1 k2 : Bool} {p p1 p2 pt : Pos} {kt : Nat} (hm : X.mg "isinstance" = none) (hm1 : X.mg N1 = none) (hv1 : bootBuiltins N1 = some (.type T1)) (hm2 : X.mg N2 = none) (hv2 : bootBuiltins N2 = some (.type T2)) (ha : YE X a σ F d) (hk1 : kitB (tyD d) T1 = some k1) (hk2 : kitB (tyD d) T2 = some k2)
    (hg : Gl X "isinstance" := by rfl) (hg1 : Gl X N1 := by rfl) (hg2 : Gl X N2 := by rfl) (hn1 : N1 ≠ "__name__" := by decide) (hd1 : (N1 == ("__debug__" : Str)) = false := by decide) (hn2 : N2 ≠ "__name__" := by decide) (hd2 : (N2 == ("__debug__" : Str)) = false := by decide)
    (he : starEach [a, .Tuple [.Name N1 p1, .Name N2 p2] kt pt] X.env = (false, eval a X.env) :: starEach [.Tuple [.Name N1 p1, .Name N2 p2] kt pt] X.env := by rfl) (he2 : starEach [.Tuple [.Name N1 p1, .Name N2 p2] kt pt] X.env = (false, eval (.Tuple [.Name N1 p1, .Name N2 p2] kt pt) X.env) :: starEach [] X.env := by rfl)
    (he3 : starEach [.Name N1 p1, .Name N2 p2] X.env = (false, eval (.Name N1 p1) X.env) :: starEach [.Name N2 p2] X.env := by rfl) (he4 : starEach [.Name N2 p2] X.env = (false, eval (.Name N2 p2) X.env) :: starEach [] X.env := by rfl)
    (hpl : (backTo pos (starEach [.Tuple [.Name N1 p1, .Name N2 p2] kt pt] X.env)).any (·.1) = false := by rfl) :
    YE X (.Call (.Name "isinstance" p) [a, .Tuple [.Name N1 p1, .Name N2 p2] kt pt] [] pos) σ F (.bool (k1 || k2)) := fun H s Q q =>
  go_e (pe_callB call_isiT hg hm PyProof.Rows.boot_isinstance (pa_cons pe_we (pa_cons (pe_tup (pa_cons (pe_bltn (v := .ty T1) hg1 hm1 hv1 rfl hn1 hd1) (pa_cons (pe_bltn (v := .ty T2) hg2 hm2 hv2 rfl hn2 hd2) pa_nil he4) he3)) pa_nil he2) he) (by decide) (by decide) he hpl)
    (ha H s _ fun v F2 H2 n2 dv => ⟨by show 2 ≤ sizeLine; decide, fun tp htp => ⟨v, tp, [.ty T1, .ty T2], _, [.type T1, .type T2], k1 || k2, rfl, upd_same, .cons (.ty T1) (.cons (.ty T2) .nil), tyx (Dpx dv (n2.i.trans (same_new htp))),
      kitAny_cons (b := k1) (kit_ty hk1) (fun e => by rw [e]; exact kitAny_cons (b := k2) (kit_ty hk2) (fun e2 => by rw [e2]; exact kitAny_nil) (fun e2 => by rw [e2]; rfl)) (fun e => by rw [e]; rfl), q _ F2 _ (n2.trans (Nw.hop n2.i (same_new htp))) (.bl _)⟩⟩)

/-! ### the text's own defs -/
def PuD (K : PySem.W.Frag) (n : Nat) (G : List PyData → PyData → Prop) : Sp := fun vs H Q _ => ∃ F ds d, Same F H ∧ DpAll K F vs ds ∧ ds.length = n ∧ G ds d ∧ ∀ v F' H', Nw F H F' H' → Dp K F' v d → Q v H'
theorem pud_len {K : PySem.W.Frag} {n : Nat} {G : List PyData → PyData → Prop} {ps : List Str} (h : n = ps.length := by rfl) : ∀ vs H Q E, PuD K n G vs H Q E → vs.length = ps.length := fun vs H Q E q => by
  obtain ⟨F, ds, d, _, hA, hn, _⟩ := q
  rw [dpA_len hA, hn, h]
/-- the def x stands, and keeps sp by level k -/
structure Dn (P : Program) (w : World) (K : PySem.W.Frag) (mg : Str → Option Value) (base : Heap) (x : Str) (k : Nat) (CX : CXT) (ps : List Str) (sp : Sp) : Prop where
  ex : ∃ f fd, mg x = some (.ref f) ∧ PySem.W.keepIn K (.ref f) = true ∧ Binds K fd ps [] ∧ FnOk P w K mg base CX k f fd ps sp
theorem Dn.up {P : Program} {w : World} {K : PySem.W.Frag} {mg : Str → Option Value} {base : Heap} {x : Str} {k l : Nat} {CX : CXT} {ps : List Str} {sp : Sp} (D : Dn P w K mg base x k CX ps sp) (h : k ≤ l) : Dn P w K mg base x l CX ps sp := by
  obtain ⟨f, fd, a, b, c, d⟩ := D.ex
  exact ⟨f, fd, a, b, c, d.mono h⟩
theorem we_call {x : Str} {CX : CXT} {k : Nat} {ps : List Str} {sp : Sp} {E : XK} {p : Pos} {Q : VK} (D : Dn X.prog X.w X.K X.mg X.base x k CX ps sp) (hr : Room k X.A) (hx : Passes CX X E) (h : WA X (e :: es) σ H fun vs H1 => sp vs H1 Q E) (hg : Gl X x := by rfl) (hdb : (x == ("__debug__" : Str)) = false := by decide)
    (he : starEach (e :: es) X.env = (false, eval e X.env) :: starEach es X.env := by rfl) (hpl : (backTo pos (starEach es X.env)).any (·.1) = false := by rfl) : WE X (.Call (.Name x p) (e :: es) [] pos) σ H Q := by
  obtain ⟨f, fd, hm, hk, hb, FO⟩ := D.ex
  refine go_e (pe_call FO hr hg hm hk hb .nil hx pa_wa hdb he hpl) ?_
  have e0 : (fun vs H1 => sp (vs ++ []) H1 Q E) = fun vs H1 => sp vs H1 Q E := by
    funext vs H1
    rw [List.append_nil]
  show WA X (e :: es) σ H fun vs H1 => sp (vs ++ []) H1 Q E
  rw [e0]
  exact h
theorem ye_call {x : Str} {CX : CXT} {k n : Nat} {ps : List Str} {G : List PyData → PyData → Prop} {p : Pos} (D : Dn X.prog X.w X.K X.mg X.base x k CX ps (PuD X.K n G)) (hr : Room k X.A) (hx : Passes CX X E0) (ha : YA X (e :: es) σ F ds) (hG : G ds d) (hn : ds.length = n := by rfl) (hg : Gl X x := by rfl) (hdb : (x == ("__debug__" : Str)) = false := by decide)
    (he : starEach (e :: es) X.env = (false, eval e X.env) :: starEach es X.env := by rfl) (hpl : (backTo pos (starEach es X.env)).any (·.1) = false := by rfl) : YE X (.Call (.Name x p) (e :: es) [] pos) σ F d := fun H s Q q =>
  we_call D hr hx (ha H s _ fun vs F2 H2 n2 dvs => ⟨F2, ds, d, n2.i, dvs, hn, hG, fun v F3 H3 n3 dv => q v F3 H3 (n2.trans n3) dv⟩) hg hdb he hpl
structure At (K : PySem.W.Frag) (mg : Str → Option Value) (x : Str) (st : Stmt) (ps : List Str) : Prop where
  ex : ∃ f fd, mg x = some (.ref f) ∧ Fun K x x st f fd ∧ Binds K fd ps []
section
variable {P : Program} {w : World} {K : PySem.W.Frag} {mg : Str → Option Value} {base : Heap} {x : Str} {st : Stmt} {ps N : List Str} {sp : Sp} {k : Nat}
/-- a def that lets no exception out -/
theorem dn0 (A : At K mg x st ps) (S : FnScope N ps (defScope st)) (len : ∀ vs H Q E, sp vs H Q E → vs.length = ps.length)
    (body : ∀ (f : Addr) (cdv : Value) (A : Around) (outer : List Env) (s : Shared) (H : Hp) (vs : List V) (Q : VK) (E : XK), Room k (A.deeper (envOfC x (defScope st) s.heap.objs.size f cdv)) → sp vs H Q E →
      WSs (cxOf L2.CX0 P w K mg base N x (defScope st) f cdv A outer s H E).nox (defBody st) { nx := fun _ H' => Q .non H', rt := Q } (L2.start N vs) H) : Dn P w K mg base x (k + 1) L2.CX0 ps sp := by
  obtain ⟨f, fd, hm, FF, hb⟩ := A.ex
  exact ⟨f, fd, hm, FF.kp, hb, FF.ok S len fun cdv A outer s H vs Q E hr h => ⟨_, pss_ws, body f cdv A outer s H vs Q E hr h⟩⟩
/-- a def that may raise -/
theorem dnX (A : At K mg x st ps) (S : FnScope N ps (defScope st)) (len : ∀ vs H Q E, sp vs H Q E → vs.length = ps.length)
    (body : ∀ (f : Addr) (cdv : Value) (A : Around) (outer : List Env) (s : Shared) (H : Hp) (vs : List V) (Q : VK) (E : XK), Room k (A.deeper (envOfC x (defScope st) s.heap.objs.size f cdv)) → sp vs H Q E →
      WSs (cxOf (L2.CX P w) P w K mg base N x (defScope st) f cdv A outer s H E) (defBody st) { nx := fun _ H' => Q .non H', rt := Q } (L2.start N vs) H) : Dn P w K mg base x (k + 1) (L2.CX P w) ps sp := by
  obtain ⟨f, fd, hm, FF, hb⟩ := A.ex
  exact ⟨f, fd, hm, FF.kp, hb, FF.okX S len fun cdv A outer s H vs Q E hr h => ⟨_, pss_ws, body f cdv A outer s H vs Q E hr h⟩⟩
end
end
end K10
set_option Elab.async false
set_option linter.all false
set_option maxRecDepth 100000
set_option maxHeartbeats 4000000
/-! The text by its places; what its top leaves; the defs that check arguments. -/
namespace K10
open PySem PySem.Spec PyProof.Rows L2

def topS (i : Nat) : Stmt := PySem.Challenge.pw_littowers_k10_whole_extensions.main.body.getD i (.Pass ⟨0, 0, 0, 0⟩)
abbrev nWhole : List Str := ["value"]
theorem scWhole : FnScope nWhole ["value"] (defScope (topS 13)) := ⟨rfl, rfl, rfl, by decide +kernel, rfl, by decide +kernel, by decide +kernel⟩
abbrev nWithin : List Str := ["value", "low", "high"]
theorem scWithin : FnScope nWithin ["value", "low", "high"] (defScope (topS 14)) := ⟨rfl, rfl, rfl, by decide +kernel, rfl, by decide +kernel, by decide +kernel⟩
theorem scNeedN : FnScope nWithin ["value", "low", "high"] (defScope (topS 15)) := ⟨rfl, rfl, rfl, by decide +kernel, rfl, by decide +kernel, by decide +kernel⟩
theorem scTupleOf : FnScope nWithin ["value", "low", "high"] (defScope (topS 16)) := ⟨rfl, rfl, rfl, by decide +kernel, rfl, by decide +kernel, by decide +kernel⟩
abbrev nIsRod : List Str := ["many", "value", "told"]
theorem scIsRod : FnScope nIsRod ["many", "value"] (defScope (topS 17)) := ⟨rfl, rfl, rfl, by decide +kernel, rfl, by decide +kernel, by decide +kernel⟩
abbrev nNeedNet : List Str := ["value", "many", "rods", "index", "rod", "seen", "turn", "one", "other", "length"]
theorem scNeedNet : FnScope nNeedNet ["value"] (defScope (topS 18)) := ⟨rfl, rfl, rfl, by decide +kernel, rfl, by decide +kernel, by decide +kernel⟩
abbrev nNeedPlace : List Str := ["net", "place"]
theorem scNeedPlace : FnScope nNeedPlace ["net", "place"] (defScope (topS 19)) := ⟨rfl, rfl, rfl, by decide +kernel, rfl, by decide +kernel, by decide +kernel⟩
abbrev nNeedTold : List Str := ["net", "told", "index", "height"]
theorem scNeedTold : FnScope nNeedTold ["net", "told"] (defScope (topS 20)) := ⟨rfl, rfl, rfl, by decide +kernel, rfl, by decide +kernel, by decide +kernel⟩

/-- what the top leaves, as far as it is asked -/
structure Top (K : PySem.W.Frag) (mg : Str → Option Value) : Prop where
  isi : mg "isinstance" = none
  int : mg "int" = none
  bool : mg "bool" = none
  tuple : mg "tuple" = none
  list : mg "list" = none
  str : mg "str" = none
  len : mg "len" = none
  range : mg "range" = none
  enum : mg "enumerate" = none
  min : mg "min" = none
  max : mg "max" = none
  sum : mg "sum" = none
  any : mg "any" = none
  all : mg "all" = none
  abs : mg "abs" = none
  zip : mg "zip" = none
  sorted : mg "sorted" = none
  gcd : mg "gcd" = some (.builtin "math.gcd")
  mPlaces : ∃ t, mg "MOST_PLACES" = some (.int 8 t)
  mLength : ∃ t, mg "MOST_LENGTH" = some (.int 9 t)
  mHeight : ∃ t, mg "MOST_HEIGHT" = some (.int 99 t)
  mRows : ∃ t, mg "MOST_ROWS" = some (.int 20000 t)
  aWhole : At K mg "whole" (topS 13) ["value"]
  aWithin : At K mg "within" (topS 14) ["value", "low", "high"]
  aNeedN : At K mg "need_number" (topS 15) ["value", "low", "high"]
  aTupleOf : At K mg "tuple_of" (topS 16) ["value", "low", "high"]
  aIsRod : At K mg "is_rod" (topS 17) ["many", "value"]
  aNeedNet : At K mg "need_net" (topS 18) ["value"]
  aNeedPlace : At K mg "need_place" (topS 19) ["net", "place"]
  aNeedTold : At K mg "need_told" (topS 20) ["net", "told"]
  aTable : At K mg "table_of" (topS 22) ["net"]
  aLow : At K mg "low" (topS 24) ["top", "bottom"]
  aBoth : At K mg "need_both" (topS 27) ["net", "told"]
  aClashOf : At K mg "clash_of" (topS 28) ["table", "told"]
  aClash : At K mg "clash" (topS 29) ["net", "told"]
  aSpans : At K mg "spans" (topS 30) ["table", "told", "most"]
  aLowest : At K mg "lowest" (topS 31) ["net", "told"]
  aHighest : At K mg "highest" (topS 32) ["net", "told", "most"]
  aSure : At K mg "sure" (topS 33) ["net", "told", "most"]
  aGrown : At K mg "grown" (topS 34) ["table", "told", "most", "rows"]
  aAllRows : At K mg "all_rows" (topS 35) ["table", "told", "most"]
  aNumber : At K mg "number_told" (topS 36) ["net", "told", "most"]
  aMean : At K mg "mean_height" (topS 37) ["net", "told", "most", "place"]
  aHeights : At K mg "heights_at" (topS 38) ["net", "told", "most", "place"]
  aTaken : At K mg "_law_taken" (topS 40) ["_law_row", "_law_many"]
  aLNet : At K mg "_law_net" (topS 41) ["_law_row", "_law_most", "_law_long"]
  aPick : At K mg "_law_pick" (topS 42) ["_law_row", "_law_things"]
  aLFar : At K mg "_law_far" (topS 43) ["_law_net_here"]
  aSlope : At K mg "_law_slope" (topS 44) ["_law_row", "_law_net_here", "_law_most"]
  aToldH : At K mg "_law_told_heights" (topS 45) ["_law_row", "_law_net_here", "_law_most"]
  aAlike : At K mg "_law_alike" (topS 46) ["_law_found", "_law_due"]
  aSlopes : At K mg "_law_slopes" (topS 47) ["_law_far_here", "_law_most"]
  aTried : At K mg "_law_tried" (topS 48) ["_law_work"]
  aRatio : At K mg "_law_ratio" (topS 49) ["_law_top", "_law_bottom"]

section
variable {K : PySem.W.Frag} {F : Hp} {vs : List V} {d1 d2 d3 d4 : PyData}
theorem dpA1 (h : DpAll K F vs [d1]) : ∃ v1, vs = [v1] ∧ Dp K F v1 d1 := by
  cases h with
  | cons h1 h2 =>
    cases h2
    exact ⟨_, rfl, h1⟩
theorem dpA2 (h : DpAll K F vs [d1, d2]) : ∃ v1 v2, vs = [v1, v2] ∧ Dp K F v1 d1 ∧ Dp K F v2 d2 := by
  cases h with
  | cons h1 h2 =>
    obtain ⟨v2, rfl, g⟩ := dpA1 h2
    exact ⟨_, _, rfl, h1, g⟩
theorem dpA3 (h : DpAll K F vs [d1, d2, d3]) : ∃ v1 v2 v3, vs = [v1, v2, v3] ∧ Dp K F v1 d1 ∧ Dp K F v2 d2 ∧ Dp K F v3 d3 := by
  cases h with
  | cons h1 h2 =>
    obtain ⟨v2, v3, rfl, g⟩ := dpA2 h2
    exact ⟨_, _, _, rfl, h1, g⟩
theorem dpA4 (h : DpAll K F vs [d1, d2, d3, d4]) : ∃ v1 v2 v3 v4, vs = [v1, v2, v3, v4] ∧ Dp K F v1 d1 ∧ Dp K F v2 d2 ∧ Dp K F v3 d3 ∧ Dp K F v4 d4 := by
  cases h with
  | cons h1 h2 =>
    obtain ⟨v2, v3, v4, rfl, g⟩ := dpA3 h2
    exact ⟨_, _, _, _, rfl, h1, g⟩
end

section
variable {P : Program} {w : World} {K : PySem.W.Frag} {mg : Str → Option Value} {base : Heap}
def isIntD : PyData → Bool
  | .int _ => true
  | _ => false
def gWhole (ds : List PyData) (d : PyData) : Prop := ∃ v, ds = [v] ∧ d = .bool (isIntD v)
theorem kitNB : kitB "NoneType" "bool" = some false := by decide +kernel
theorem kitNI : kitB "NoneType" "int" = some false := by decide +kernel
theorem kitNS : kitB "NoneType" "str" = some false := by decide +kernel
theorem kitNL : kitB "NoneType" "list" = some false := by decide +kernel
theorem kitNT : kitB "NoneType" "tuple" = some false := by decide +kernel
theorem kitBB : kitB "bool" "bool" = some true := by decide +kernel
theorem kitBI : kitB "bool" "int" = some true := by decide +kernel
theorem kitBS : kitB "bool" "str" = some false := by decide +kernel
theorem kitBL : kitB "bool" "list" = some false := by decide +kernel
theorem kitBT : kitB "bool" "tuple" = some false := by decide +kernel
theorem kitIB : kitB "int" "bool" = some false := by decide +kernel
theorem kitII : kitB "int" "int" = some true := by decide +kernel
theorem kitIS : kitB "int" "str" = some false := by decide +kernel
theorem kitIL : kitB "int" "list" = some false := by decide +kernel
theorem kitIT : kitB "int" "tuple" = some false := by decide +kernel
theorem kitSB : kitB "str" "bool" = some false := by decide +kernel
theorem kitSI : kitB "str" "int" = some false := by decide +kernel
theorem kitSS : kitB "str" "str" = some true := by decide +kernel
theorem kitSL : kitB "str" "list" = some false := by decide +kernel
theorem kitST : kitB "str" "tuple" = some false := by decide +kernel
theorem kitLB : kitB "list" "bool" = some false := by decide +kernel
theorem kitLI : kitB "list" "int" = some false := by decide +kernel
theorem kitLS : kitB "list" "str" = some false := by decide +kernel
theorem kitLL : kitB "list" "list" = some true := by decide +kernel
theorem kitLT : kitB "list" "tuple" = some false := by decide +kernel
theorem kitTB : kitB "tuple" "bool" = some false := by decide +kernel
theorem kitTI : kitB "tuple" "int" = some false := by decide +kernel
theorem kitTS : kitB "tuple" "str" = some false := by decide +kernel
theorem kitTL : kitB "tuple" "list" = some false := by decide +kernel
theorem kitTT : kitB "tuple" "tuple" = some true := by decide +kernel
theorem we_end {X : Cx} {σ : L2.St} {F H : Hp} {e : Expr} {d d1 : PyData} {Q : VK} (q : ∀ v F' H', Nw F H F' H' → Dp X.K F' v d1 → Q v H') (s : Same F H) (h : YE X e σ F d) (e0 : d = d1) : WE X e σ H Q := by
  subst e0
  exact h H s Q q
theorem kit_int (v : PyData) (h : ∀ kvs, v ≠ .dict kvs) : ∃ k1 k2, kitB (tyD v) "int" = some k1 ∧ kitB (tyD v) "bool" = some k2 ∧ (k1 && !k2) = isIntD v := by
  cases v with
  | none => exact ⟨false, false, kitNI, kitNB, rfl⟩
  | bool b => exact ⟨true, true, kitBI, kitBB, rfl⟩
  | int i => exact ⟨true, false, kitII, kitIB, rfl⟩
  | str x => exact ⟨false, false, kitSI, kitSB, rfl⟩
  | list xs => exact ⟨false, false, kitLI, kitLB, rfl⟩
  | tuple xs => exact ⟨false, false, kitTI, kitTB, rfl⟩
  | dict kvs => exact absurd rfl (h kvs)
theorem no_dict {F : Hp} {v : V} {d : PyData} (h : Dp K F v d) : ∀ kvs, d ≠ .dict kvs := fun kvs e => by
  subst e
  cases h
theorem ok_whole (T : Top K mg) : Dn P w K mg base "whole" 1 L2.CX0 ["value"] (PuD K 1 gWhole) := by
  refine dn0 T.aWhole scWhole pud_len fun f cdv A outer s H vs Q E hr h => ?_
  obtain ⟨F, ds, d, s1, hA, hn, ⟨v, rfl, rfl⟩, q⟩ := h
  obtain ⟨v1, rfl, h1⟩ := dpA1 hA
  obtain ⟨k1, k2, e1, e2, e3⟩ := kit_int v (no_dict h1)
  refine wss_one (ws_ret ?_)
  exact we_end q s1 (ye_and (ye_isi T.isi T.int PyProof.Rows.boot_int (yv 0 h1) e1) fun _ => ye_one (ye_not (ye_isi T.isi T.bool (by decide +kernel) (yv 0 h1) e2))) (by rw [e3])
def gWithin (ds : List PyData) (d : PyData) : Prop := ∃ v lo hi : Int, ds = [.int v, .int lo, .int hi] ∧ d = .bool (decide (lo ≤ v) && decide (v ≤ hi))
theorem ok_within (T : Top K mg) : Dn P w K mg base "within" 2 L2.CX0 ["value", "low", "high"] (PuD K 3 gWithin) := by
  have D1 := ok_whole (P := P) (w := w) (base := base) T
  refine dn0 T.aWithin scWithin pud_len fun f cdv A outer s H vs Q E hr h => ?_
  obtain ⟨F, ds, d, s1, hA, hn, ⟨v, lo, hi, rfl, rfl⟩, q⟩ := h
  obtain ⟨v1, v2, v3, rfl, h1, h2, h3⟩ := dpA3 hA
  refine wss_one (ws_ret ?_)
  exact we_end q s1 (ye_and (ye_call D1 hr pass0 (ya_cons (yv 0 h1) ya_nil) ⟨_, rfl, rfl⟩) fun _ => ye_one (ye_chain od_le od_le (yv 1 h2) (yv 0 h1) fun _ => yv 2 h3)) rfl
def gNeedN (ds : List PyData) (d : PyData) : Prop := ∃ v lo hi : Int, ds = [.int v, .int lo, .int hi] ∧ (lo ≤ v ∧ v ≤ hi) ∧ d = .none
theorem ok_needN (T : Top K mg) : Dn P w K mg base "need_number" 3 L2.CX0 ["value", "low", "high"] (PuD K 3 gNeedN) := by
  have D1 := ok_within (P := P) (w := w) (base := base) T
  refine dn0 T.aNeedN scNeedN pud_len fun f cdv A outer s H vs Q E hr h => ?_
  obtain ⟨F, ds, d, s1, hA, hn, ⟨v, lo, hi, rfl, ⟨b1, b2⟩, rfl⟩, q⟩ := h
  obtain ⟨v1, v2, v3, rfl, h1, h2, h3⟩ := dpA3 hA
  refine wss_one (ws_ifY (YT.is (yt_not (yt_val (ye_call D1 hr pass0 (ya_cons (yv 0 h1) (ya_cons (yv 1 h2) (ya_cons (yv 2 h3) ya_nil))) ⟨_, _, _, rfl, rfl⟩))) (k1 := false) (by rw [decide_eq_true b1, decide_eq_true b2]; rfl)) s1 (fun e => nomatch e) fun _ H1 s2 => wss_nil ?_)
  exact q _ F H1 (Nw.hop s1 s2) .non
def gTupleOf (ds : List PyData) (d : PyData) : Prop := ∃ (xs : List PyData) (lo hi : Int), ds = [.tuple xs, .int lo, .int hi] ∧ d = .bool (decide (lo ≤ xs.length) && decide ((xs.length : Int) ≤ hi))
theorem ok_tupleOf (T : Top K mg) : Dn P w K mg base "tuple_of" 1 L2.CX0 ["value", "low", "high"] (PuD K 3 gTupleOf) := by
  refine dn0 T.aTupleOf scTupleOf pud_len fun f cdv A outer s H vs Q E hr h => ?_
  obtain ⟨F, ds, d, s1, hA, hn, ⟨xs, lo, hi, rfl, rfl⟩, q⟩ := h
  obtain ⟨v1, v2, v3, rfl, h1, h2, h3⟩ := dpA3 hA
  refine wss_one (ws_ret ?_)
  exact we_end q s1 (ye_and (ye_isi T.isi T.tuple PyProof.Rows.boot_tuple (yv 0 h1) kitTT) fun _ => ye_one (ye_chain od_le od_le (yv 1 h2) (ye_callB cd_lenT T.len PySem.boot_len (ya_cons (yv 0 h1) ya_nil)) fun _ => yv 2 h3)) rfl
def gIsRod (ds : List PyData) (d : PyData) : Prop := ∃ (many a b l : Int), ds = [.int many, .tuple [.int a, .int b, .int l]] ∧ (0 ≤ a ∧ a < b ∧ b < many ∧ 1 ≤ l ∧ l ≤ 9) ∧ d = .bool true
theorem ok_isRod (T : Top K mg) : Dn P w K mg base "is_rod" 2 L2.CX0 ["many", "value"] (PuD K 2 gIsRod) := by
  have D1 := ok_whole (P := P) (w := w) (base := base) T
  have D2 := ok_tupleOf (P := P) (w := w) (base := base) T
  obtain ⟨tL, mL⟩ := T.mLength
  refine dn0 T.aIsRod scIsRod pud_len fun f cdv A outer s H vs Q E hr h => ?_
  obtain ⟨F, ds, d, s1, hA, hn, ⟨many, a, b, l, rfl, ⟨c1, c2, c3, c4, c5⟩, rfl⟩, q⟩ := h
  obtain ⟨v1, v2, rfl, h1, h2⟩ := dpA2 hA
  refine wss_cons (ws_ifY (k := false) (YT.is (yw_pt (yw_or (yt_not (yt_val (ye_call D2 hr pass0 (ya_cons (yv 1 h2) (ya_cons ye_int (ya_cons ye_int ya_nil))) ⟨_, _, _, rfl, rfl⟩))) fun _ => yw_or1 (yt_not (yt_val (ye_callB (cd_all (ns := [true, true, true]) rfl) T.all (by decide +kernel) (ya_cons
      (YL.ye (YL.is (yl_comp (own := [("told", 2)]) rfl scIsRod.nd (src_tup (yv 1 h2)) (blkOk_by (N := nIsRod) (sc := defScope (topS 17)) (by decide +kernel)) (by show 3 ≤ 90000; decide) (fun d => .bool (isIntD d)) fun d hd => tn1 2 scIsRod.nd (fun _ => rfl) (fun F1 u s2 du s0 H0 C cl fp => ye_call D1 (hr.mono (by decide)) pass0 (ya_cons (yv 2 du) ya_nil) ⟨_, rfl, rfl⟩) (fun _ _ _ _ _ => pg_name (i := 2) scIsRod.nd rfl (Or.inl rfl))) rfl)) ya_nil)))))) rfl) s1 (fun e => nomatch e) fun _ H1 s2 => wss_nil (wss_one (ws_ret ?_)))
  refine we_end (fun v F' H' n dv => q v F' H' ((Nw.hop s1 s2).trans n) dv) (s1.trans s2) (ye_and (ye_chain3 od_le od_lt od_lt ye_int (ye_ixT (yv 1 h2) ye_int (by rfl)) (ye_ixT (yv 1 h2) ye_int (by rfl)) (yv 0 h1)) fun _ => ye_one (ye_chain od_le od_le ye_int (ye_ixT (yv 1 h2) ye_int (by rfl)) fun _ => ye_globI mL ⟨_, rfl⟩)) ?_
  rw [decide_eq_true c1, decide_eq_true c2, decide_eq_true c3, decide_eq_true c4, decide_eq_true c5]
  rfl
end
end K10
set_option Elab.async false
set_option linter.all false
set_option maxRecDepth 100000
set_option maxHeartbeats 4000000
/-! Nets, told heights: their checks. -/
namespace K10
open PySem PySem.Spec PyProof.Rows L2

/-! ### nets as data -/
structure Rod where
  a : Nat
  b : Nat
  l : Nat
structure Net where
  n : Nat
  rods : List Rod
def rodD (r : Rod) : PyData := .tuple [.int r.a, .int r.b, .int r.l]
def netD (N : Net) : PyData := .tuple [.int N.n, .tuple (N.rods.map rodD)]
def rodLt (r s : Rod) : Prop := r.a < s.a ∨ (r.a = s.a ∧ r.b < s.b)
structure Net.Ok (N : Net) : Prop where
  n1 : 1 ≤ N.n
  n4 : N.n ≤ 4
  few : N.rods.length ≤ 28
  rod : ∀ r ∈ N.rods, r.a < r.b ∧ r.b < N.n ∧ 1 ≤ r.l ∧ r.l ≤ 9
  asc : N.rods.Pairwise rodLt
  con : ∀ p, 1 ≤ p → p < N.n → ∃ r ∈ N.rods, r.b = p
def optD : Option Nat → PyData
  | none => .none
  | some h => .int h
def tlD (t : List (Option Nat)) : PyData := .tuple (t.map optD)

/-! ### in over a list of ints -/
theorem inV_ints (i : Int) : ∀ ns : List Int, inV (.int i) (ns.map V.int) = decide (i ∈ ns)
  | [] => rfl
  | n :: ns => by
    have ih := inV_ints i ns
    unfold inV at ih ⊢
    rw [List.map_cons, List.any_cons, ih]
    show ((n == i) || decide (i ∈ ns)) = decide (i ∈ n :: ns)
    by_cases e : i = n
    · subst e
      simp
    · have e1 : (n == i) = false := beq_false_of_ne (fun z => e z.symm)
      rw [e1, Bool.false_or]
      have e2 : (i ∈ n :: ns) ↔ i ∈ ns := by simp [e]
      exact (decide_eq_decide.mpr e2).symm
theorem flat_ints : ∀ ns : List Int, (ns.map V.int).all flatV = true
  | [] => rfl
  | n :: ns => by rw [List.map_cons, List.all_cons, flat_ints ns]; rfl
section
variable {X : Cx} {σ : L2.St} {F H : Hp}
theorem od_inI {i : Int} {ns : List Int} : OpD X (compareOp .In) (.int i) (.list (ns.map PyData.int)) (.bool (decide (i ∈ ns))) := ⟨_, op_in_seq, fun F H x y Q s dx dy q => by
  cases dx
  obtain ⟨p, xs, rfl, hS, hA⟩ := dp_lst dy
  rw [dpA_ints hA] at hS
  refine ⟨p, _, rfl, .inl (sqL_at (s p) hS), rfl, flat_ints ns, ?_⟩
  show Q (.bl (inV (.int i) (ns.map V.int))) H
  rw [inV_ints]
  exact q _ F H (Nw.refl s) (.bl _)⟩
end
theorem lex2 (a b a' b' : Int) : Ob.lexAt (fun j => decide ([a, b].getD j 0 = [a', b'].getD j 0)) (fun j => decide ([a, b].getD j 0 ≤ [a', b'].getD j 0)) (decide (([a, b] : List Int).length ≤ [a', b'].length)) 0 (min [a, b].length [a', b'].length) = (if a = a' then (if b = b' then true else decide (b ≤ b')) else decide (a ≤ a')) := by
  show (if decide (a = a') = true then (if decide (b = b') = true then decide (2 ≤ 2) else decide (b ≤ b')) else decide (a ≤ a')) = _
  by_cases e : a = a'
  · by_cases e2 : b = b'
    · simp [e, e2]
    · simp [e, e2]
  · simp [e]
section
variable {X : Cx} {σ : L2.St} {F F' H : Hp} {e : Expr} {pos p2 p3 : Pos} {d1 d2 d3 : PyData}
theorem YE.w {H : Hp} {Q : VK} {d : PyData} (h : YE X e σ F d) (s : Same F H) (q : ∀ v F' H', Nw F H F' H' → Dp X.K F' v d → Q v H') : WE X e σ H Q := h H s Q q
theorem YL.w {H : Hp} {Q : VK} {ds : List PyData} (h : YL X e σ F ds) (s : Same F H) (q : ∀ p xs F' H', Nw F H F' H' → H p = none → F' p = none → H' p = some (.lst xs) → DpAll X.K F' xs ds → Q (.ref p) H') : WE X e σ H Q := h H s Q q
theorem atN {α : Type} {xs : List α} {i : Int} {j : Nat} {v : α} (e : i = (j : Int)) (h : xs[j]? = some v) : atI xs i = some v := by
  subst e
  exact atI_nat h
theorem ye_slice2 {j : Nat} (h : YE X e σ F (.tuple [d1, d2, d3])) : YE X (.Subscript e (.Slice none (some (.Constant (.int 2) j p3)) none p2) pos) σ F (.tuple [d1, d2]) := fun H s Q q =>
  go_e (pe_slice sl_tup pe_we po_none (po_some pe_int)) (h H s _ fun v F2 H2 n2 dv => by
    obtain ⟨p, xs, rfl, hS, hA⟩ := dp_tup dv
    obtain ⟨u1, u2, u3, rfl, a1, a2, a3⟩ := dpA3 hA
    refine ⟨2, rfl, p, [u1, u2, u3], rfl, sqT_at (n2.i p) hS, (by show ¬ (HT.sIx 3 0 none = 0 ∧ HT.sIx 3 3 (some 2) = 3); decide), fun T hT => ?_⟩
    have fT := n2.i.free hT
    exact q _ _ _ (n2.trans (Nw.put n2.i hT)) (.tup (sqT_of upd_same) (.cons (Dpx a1 (same_new fT)) (.cons (Dpx a2 (same_new fT)) .nil))))
theorem od_leT2 {a b a' b' : Int} (hu : X.A.units < cLine) : OpD X (compareOp .LtE) (.tuple [.int a, .int b]) (.tuple [.int a', .int b']) (.bool (if a = a' then (if b = b' then true else decide (b ≤ b')) else decide (a ≤ a'))) := ⟨_, op_leT hu, fun F H x y Q s dx dy q => by
  obtain ⟨p, xs, rfl, hS, hA⟩ := dp_tup dx
  obtain ⟨p2, ys, rfl, hS2, hA2⟩ := dp_tup dy
  have e1 : xs = [a, b].map V.int := dpA_ints (ns := [a, b]) hA
  have e2 : ys = [a', b'].map V.int := dpA_ints (ns := [a', b']) hA2
  subst e1 e2
  refine ⟨p, p2, [a, b], [a', b'], rfl, rfl, sqT_at (s p) hS, sqT_at (s p2) hS2, ?_⟩
  rw [lex2]
  exact q _ F H (Nw.refl s) (.bl _)⟩
theorem same_add {p : Addr} {o : HO} (s : Same F H) (e : H p = some o) : Same (upd F p o) H := fun b u q => by
  by_cases hb : b = p
  · subst hb
    rw [upd_same] at q
    rw [e]
    exact q
  · rw [upd_ne hb] at q
    exact s b u q
end

/-! ### the checks -/
section
variable {P : Program} {w : World} {K : PySem.W.Frag} {mg : Str → Option Value} {base : Heap}
def gNeedPlace (ds : List PyData) (d : PyData) : Prop := ∃ (N : Net) (p : Nat), ds = [netD N, .int p] ∧ p < N.n ∧ d = .none
theorem ok_needPlace (T : Top K mg) : Dn P w K mg base "need_place" 3 L2.CX0 ["net", "place"] (PuD K 2 gNeedPlace) := by
  have D1 := ok_within (P := P) (w := w) (base := base) T
  refine dn0 T.aNeedPlace scNeedPlace pud_len fun f cdv A outer s H vs Q E hr h => ?_
  obtain ⟨F, ds, d, s1, hA, hn, ⟨N, p, rfl, hp, rfl⟩, q⟩ := h
  obtain ⟨v1, v2, rfl, h1, h2⟩ := dpA2 hA
  refine wss_one (ws_ifY (k := false) (YT.is (yt_not (yt_val (ye_call D1 hr pass0 (ya_cons (yv 1 h2) (ya_cons ye_int (ya_cons (ye_bin od_sub (ye_ixT (yv 0 h1) ye_int (by rfl)) ye_int) ya_nil))) ⟨_, _, _, rfl, rfl⟩))) ?_) s1 (fun e => nomatch e) fun _ H1 s2 => wss_nil (q _ F H1 (Nw.hop s1 s2) .non))
  rw [decide_eq_true (show (0 : Int) ≤ p by omega), decide_eq_true (show (p : Int) ≤ N.n - 1 by omega)]
  rfl
def gNeedTold (ds : List PyData) (d : PyData) : Prop := ∃ (N : Net) (t : List (Option Nat)), ds = [netD N, tlD t] ∧ N.Ok ∧ t.length = N.n ∧ (∀ h, some h ∈ t → h ≤ 99) ∧ d = .none
theorem ok_needTold (T : Top K mg) : Dn P w K mg base "need_told" 3 L2.CX0 ["net", "told"] (PuD K 2 gNeedTold) := by
  have D1 := ok_within (P := P) (w := w) (base := base) T
  have D2 := ok_tupleOf (P := P) (w := w) (base := base) T
  obtain ⟨tH, mH⟩ := T.mHeight
  refine dn0 T.aNeedTold scNeedTold pud_len fun f cdv A outer s H vs Q E hr h => ?_
  obtain ⟨F, ds, d, s1, hA, hn, ⟨N, t, rfl, ok, hl, hb, rfl⟩, q⟩ := h
  obtain ⟨v1, v2, rfl, h1, h2⟩ := dpA2 hA
  refine wss_cons (ws_ifY (k := false) (YT.is (yt_not (yt_val (ye_call D2 (hr.mono (by decide)) pass0 (ya_cons (yv 1 h2) (ya_cons (ye_ixT (yv 0 h1) ye_int (by rfl)) (ya_cons (ye_ixT (yv 0 h1) ye_int (by rfl)) ya_nil))) ⟨_, _, _, rfl, rfl⟩))) ?_) s1 (fun e => nomatch e) fun _ H1 s2 => wss_nil (wss_one ?_))
  · rw [List.length_map, hl, decide_eq_true (Int.le_refl _)]
    rfl
  have sF1 := s1.trans s2
  refine ws_for PassesOwn.never rfl (src_enT T.enum (ya_cons (yv 1 h2) ya_nil)) sF1 fun F0 H0 n0 => ⟨fun i F1 σ1 H1' => F1 = F0 ∧ Nw F0 H0 F0 H1' ∧ ∃ a b, σ1 = [some v1, some v2, a, b], ⟨rfl, Nw.refl n0.i, none, none, rfl⟩, ?_, ?_, ?_⟩
  · rintro i F1 σ1 H1' ⟨rfl, n, _⟩
    exact ⟨Same.refl _, n.i⟩
  · rintro i d F1 σ1 H1' F2 H2 u hd ⟨rfl, n, a, b, rfl⟩ n2 du
    have hi : i < t.length := by
      have := (List.getElem?_eq_some_iff.mp hd).1
      rw [enD_len, List.length_map] at this
      exact this
    have ed : (t.map optD)[i]? = some (optD t[i]) := by rw [List.getElem?_map, List.getElem?_eq_getElem hi]; rfl
    rw [enD_at ed] at hd
    cases hd
    refine wg_two 2 3 rfl scNeedTold.nd n2.i du fun w1 w2 d1 d2 => ?_
    refine wss_one (ws_ifY (k := false) (F := F2) (YT.is (yw_pt (yw_and (yt_cmp od_notN (yv 3 d2) ye_non) fun e => yw_and1 (k := false) ?_)) (Bool.and_false _)) n2.i (fun e => nomatch e) fun _ H3 s3 => wss_nil ⟨F1, rfl, ?_, _, _, rfl⟩)
    · cases ht : t[i] with
      | none =>
        rw [ht] at e
        cases e
      | some h =>
        rw [ht] at d2
        have hle : h ≤ 99 := hb h (by rw [← ht]; exact List.getElem_mem hi)
        refine YT.is (yt_not (yt_val (ye_call D1 hr pass0 (ya_cons (yv 3 d2) (ya_cons ye_int (ya_cons (ye_globI mH ⟨_, rfl⟩) ya_nil))) ⟨_, _, _, rfl, rfl⟩))) ?_
        rw [decide_eq_true (show (0 : Int) ≤ h by omega), decide_eq_true (show (h : Int) ≤ 99 by omega)]
        rfl
    · exact (n.trans (Nw.hop n.i (n2.h.trans s3)))
  · rintro F1 σ1 H1' ⟨rfl, n, _⟩
    exact q _ F1 H1' (((Nw.hop s1 s2).trans n0).trans n) .non
def gNeedNet (ds : List PyData) (d : PyData) : Prop := ∃ (N : Net), ds = [netD N] ∧ N.Ok ∧ d = .none
theorem ok_needNet (T : Top K mg) : Dn P w K mg base "need_net" 3 L2.CX0 ["value"] (PuD K 1 gNeedNet) := by
  have D1 := ok_within (P := P) (w := w) (base := base) T
  have D2 := ok_tupleOf (P := P) (w := w) (base := base) T
  have D3 := ok_isRod (P := P) (w := w) (base := base) T
  obtain ⟨tP, mP⟩ := T.mPlaces
  refine dn0 T.aNeedNet scNeedNet pud_len fun f cdv A outer s H vs Q E hr h => ?_
  obtain ⟨F, ds, d, s1, hA, hn, ⟨N, rfl, ok, rfl⟩, q⟩ := h
  obtain ⟨v1, rfl, h1⟩ := dpA1 hA
  have n1 := ok.n1
  have n4 := ok.n4
  have few := ok.few
  refine wss_cons (ws_ifY (k := false) (YT.is (yw_pt (yw_or (yt_not (yt_val (ye_call D2 (hr.mono (by decide)) pass0 (ya_cons (yv 0 h1) (ya_cons ye_int (ya_cons ye_int ya_nil))) ⟨_, _, _, rfl, rfl⟩))) fun _ =>
    yw_or (yt_not (yt_val (ye_call D1 hr pass0 (ya_cons (ye_ixT (yv 0 h1) ye_int (by rfl)) (ya_cons ye_int (ya_cons (ye_globI mP ⟨_, rfl⟩) ya_nil))) ⟨_, _, _, rfl, rfl⟩))) fun _ =>
    yw_or1 (yt_not (yt_val (ye_call D2 (hr.mono (by decide)) pass0 (ya_cons (ye_ixT (yv 0 h1) ye_int (by rfl)) (ya_cons ye_int (ya_cons ye_int ya_nil))) ⟨_, _, _, rfl, rfl⟩))))) ?_) s1 (fun e => nomatch e) fun _ H1 s2 => wss_nil ?_)
  · rw [List.length_map, decide_eq_true (show (1 : Int) ≤ N.n by omega), decide_eq_true (show (N.n : Int) ≤ 8 by omega), decide_eq_true (show (0 : Int) ≤ (N.rods.length : Nat) by omega), decide_eq_true (show ((N.rods.length : Nat) : Int) ≤ 28 by omega)]
    rfl
  have sF1 := s1.trans s2
  -- many, rods = value
  refine wss_cons (ws_asg (YE.w (yv 0 h1) sF1 fun u F2 H2 n2 du => ?_))
  refine wg_two 1 2 rfl scNeedNet.nd n2.i du fun um ur dm dr => ?_
  cases dp_int dm
  -- the rods, one after another
  refine wss_cons (ws_for PassesOwn.never rfl (src_enT T.enum (ya_cons (yv 2 dr) ya_nil)) n2.i fun F3 H3 n3 => ⟨fun i F4 σ4 H4 => F4 = F3 ∧ Nw F3 H3 F3 H4 ∧ ∃ a b, σ4 = [some v1, some (.int N.n), some ur, a, b, none, none, none, none, none], ⟨rfl, Nw.refl n3.i, none, none, rfl⟩, ?_, ?_, ?_⟩)
  · rintro i F4 σ4 H4 ⟨rfl, n, _⟩
    exact ⟨Same.refl _, n.i⟩
  · rintro i d F4 σ4 H4 F5 H5 u5 hd ⟨rfl, n, a, b, rfl⟩ n5 du5
    have hi : i < N.rods.length := by
      have := (List.getElem?_eq_some_iff.mp hd).1
      rw [enD_len, List.length_map] at this
      exact this
    have ed : (N.rods.map rodD)[i]? = some (rodD N.rods[i]) := by rw [List.getElem?_map, List.getElem?_eq_getElem hi]; rfl
    rw [enD_at ed] at hd
    cases hd
    have dr5 := Dpx dr (n3.f.trans n5.f)
    have dm5 : Dp K F5 (.int N.n) (.int N.n) := .int _
    obtain ⟨r1, r2, r3, r4⟩ := ok.rod _ (List.getElem_mem hi)
    refine wg_two 3 4 rfl scNeedNet.nd n5.i du5 fun w1 w2 d1 d2 => ?_
    refine wss_one (ws_ifY (k := false) (F := F5) (YT.is (yw_pt (yw_or (yt_not (yt_val (ye_call D3 (hr.mono (by decide)) pass0 (ya_cons (yv 1 dm5) (ya_cons (yv 4 d2) ya_nil)) ⟨_, _, _, _, rfl, by omega, rfl⟩))) fun _ => yw_or1 (yw_pt (yw_and (yt_cmp od_gt (yv 3 d1) ye_int) fun e => yw_and1 (k := false) ?_)))) (by simp)) n5.i (fun e => nomatch e) fun _ H6 s6 => wss_nil ⟨F4, rfl, ?_, _, _, rfl⟩)
    · -- rod[:2] <= rods[index - 1][:2] is false
      have i0 : 0 < i := by
        have := of_decide_eq_true e
        omega
      obtain ⟨j, rfl⟩ : ∃ j, i = j + 1 := ⟨i - 1, by omega⟩
      have hj : j < N.rods.length := by omega
      have ej : (N.rods.map rodD)[j]? = some (rodD N.rods[j]) := by rw [List.getElem?_map, List.getElem?_eq_getElem hj]; rfl
      have lt : rodLt N.rods[j] N.rods[j + 1] := List.pairwise_iff_getElem.mp ok.asc j (j + 1) hj hi (by omega)
      refine YT.is (yt_cmp (od_leT2 hr.units0) (ye_slice2 (yv 4 d2)) (ye_slice2 (ye_ixT (yv 2 dr5) (ye_bin od_sub (yv 3 d1) ye_int) (d := rodD N.rods[j]) (atN (by omega) ej)))) ?_
      unfold rodLt at lt
      rcases lt with z | ⟨z, z2⟩
      · rw [if_neg (by omega), decide_eq_false (by omega)]
      · rw [if_pos (by omega), if_neg (by omega), decide_eq_false (by omega)]
    · exact n.trans (Nw.hop n.i (n5.h.trans s6))
  rintro F4 σ4 H4 ⟨rfl, n4', a4, b4, rfl⟩
  have dr4 := Dpx dr n3.f
  have nw4 : Nw F H F4 H4 := (((Nw.hop s1 s2).trans n2).trans n3).trans n4'
  -- seen = [0]
  refine wss_cons (ws_set 5 scNeedNet.nd (YL.w (yl_lst (ds := [.int 0]) (ya_cons ye_int ya_nil)) n4'.i fun p xs F5 H5 n5 hp fp ep dA => ?_))
  have exs : xs = [0].map V.int := dpA_ints (ns := [0]) dA
  subst exs
  have dr5 := Dpx dr4 n5.f
  have nw5 := nw4.trans n5
  -- the turns
  have good : ∀ (D : Ends) (F6 H6 : Hp), Same F5 F6 → Same F6 H6 → True := fun _ _ _ _ _ => trivial
  refine wss_cons (ws_for PassesOwn.never rfl (src_rng1 (n := N.n) T.range (ya_cons (yv 1 (Dp.int _)) ya_nil) (by omega)) n5.i fun F6 H6 n6 => ⟨fun t F7 σ7 H7 => F7 = F6 ∧ Same F6 H7 ∧ Same H4 H7 ∧ ∃ (seen : List Int) (c d e g : Option V), σ7 = [some v1, some (.int N.n), some ur, a4, b4, some (.ref p), c, d, e, g] ∧ H7 p = some (.lst (seen.map V.int)) ∧ seen.length ≤ 1 + 28 * t ∧ ∀ k : Nat, k ≤ t → k < N.n → (k : Int) ∈ seen,
    ⟨rfl, n6.i, n5.h.trans n6.h, [0], none, none, none, none, rfl, n6.h p _ ep, by decide, fun k hk _ => ?_⟩, ?_, ?_, ?_⟩)
  · have : k = 0 := by omega
    subst this
    exact List.mem_cons_self
  · rintro i F7 σ7 H7 ⟨rfl, sF, _⟩
    exact ⟨Same.refl _, sF⟩
  · rintro t d F7 σ7 H7 F8 H8 u8 hd ⟨rfl, sF7, sH7, seen0, c, d', e, g, rfl, e7, l7, m7⟩ n8 du8
    have ht : t < N.n := by
      have := (List.getElem?_eq_some_iff.mp hd).1
      rw [rngD_len] at this
      exact this
    have f6p : F7 p = none := n6.out fp (by rw [ep]; exact fun z => nomatch z)
    have f8p : F8 p = none := n8.out f6p (by rw [e7]; exact fun z => nomatch z)
    have dr8 := Dpx dr5 (n6.f.trans n8.f)
    refine wg_name 6 scNeedNet.nd ?_
    refine wss_one (ws_for PassesOwn.never rfl (src_tup (yv 2 dr8)) n8.i fun F9 H9 n9 => ⟨fun i F10 σ10 H10 => F10 = F9 ∧ Same F9 H10 ∧ Same H4 H10 ∧ ∃ (seen : List Int) (d e g : Option V), σ10 = [some v1, some (.int N.n), some ur, a4, b4, some (.ref p), some u8, d, e, g] ∧ H10 p = some (.lst (seen.map V.int)) ∧ seen.length ≤ seen0.length + i ∧ (∀ k ∈ seen0, k ∈ seen) ∧ ∀ j (hj : j < N.rods.length), j < i → (N.rods[j].a : Int) ∈ seen0 → (N.rods[j].b : Int) ∈ seen,
      ⟨rfl, n9.i, (sH7.trans n8.h).trans n9.h, seen0, d', e, g, rfl, n9.h p _ (n8.h p _ e7), by omega, fun k hk => hk, fun j _ hj => absurd hj (Nat.not_lt_zero _)⟩, ?_, ?_, ?_⟩)
    · rintro i F10 σ10 H10 ⟨rfl, sF, _⟩
      exact ⟨Same.refl _, sF⟩
    · rintro i d10 F10 σ10 H10 F11 H11 u11 hd ⟨rfl, sF10, sH10, seen, d2, e2, g2, rfl, e10, l10, sub, m10⟩ n11 du11
      have hi : i < N.rods.length := by
        have := (List.getElem?_eq_some_iff.mp hd).1
        rw [List.length_map] at this
        exact this
      rw [List.getElem?_map, List.getElem?_eq_getElem hi] at hd
      cases hd
      have f9p : F10 p = none := n9.out f8p (by rw [n8.h p _ e7]; exact fun z => nomatch z)
      have f11p : F11 p = none := n11.out f9p (by rw [e10]; exact fun z => nomatch z)
      have e11 : H11 p = some (.lst (seen.map V.int)) := n11.h p _ e10
      refine wg_three 7 8 9 rfl scNeedNet.nd n11.i du11 fun w1 w2 w3 g1 g2' g3 => ?_
      have sP : Same (upd F11 p (.lst (seen.map V.int))) H11 := same_add n11.i e11
      have dS : Dp K (upd F11 p (.lst (seen.map V.int))) (.ref p) (.list (seen.map PyData.int)) := .lst (sqL_of upd_same) (ints_dpA seen)
      have g1' := Dpx g1 (same_new (o := .lst (seen.map V.int)) f11p)
      have g2'' := Dpx g2' (same_new (o := .lst (seen.map V.int)) f11p)
      refine wss_one (ws_ifY (F := upd F11 p (.lst (seen.map V.int))) (yt_cmp od_neB (ye_cmp od_inI (yv 7 g1') (yv 5 dS)) (ye_cmp od_inI (yv 8 g2'') (yv 5 dS))) sP (fun hk H12 s12 => ?_) (fun hk H12 s12 => wss_nil ?_))
      · refine wss_one (ws_expr (we_append (n11.i.trans s12) f11p (s12 p _ e11) (fun Q z => we_var 5 z) (YE.evS (d := .int (if (N.rods[i].a : Int) ∈ seen then N.rods[i].b else N.rods[i].a)) (ye_if (yt_cmp od_inI (yv 7 g1') (yv 5 dS)) (fun hk2 => YE.is (yv 8 g2'') ?_) (fun hk2 => YE.is (yv 7 g1') ?_)) (sP.trans s12) (n11.i.trans s12) sc_int) (by rw [List.length_map]; omega) fun u F13 H13 n13 f13 e13 du13 => ?_))
        · rw [if_pos (of_decide_eq_true hk2)]
        · rw [if_neg (of_decide_eq_false hk2)]
        · cases dp_int du13
          have f9h : F10 p = none := f9p
          refine ⟨F10, rfl, same_mut ((n11.f.trans n13.f).trans n13.i) f9p, same_mut (((sH10.trans n11.h).trans s12).trans n13.h) hp, seen ++ [if (N.rods[i].a : Int) ∈ seen then (N.rods[i].b : Int) else N.rods[i].a], _, _, _, rfl, by rw [upd_same, List.map_append]; rfl, by rw [List.length_append, List.length_singleton]; omega, fun k hk' => List.mem_append_left _ (sub k hk'), fun j hj hji hm => ?_⟩
          by_cases hjs : j < i
          · exact List.mem_append_left _ (m10 j hj hjs hm)
          · have : j = i := by omega
            subst this
            refine List.mem_append_right _ ?_
            rw [if_pos (sub _ hm)]
            exact List.mem_singleton.mpr rfl
      · refine ⟨F10, rfl, (n11.f.trans n11.i).trans s12, (sH10.trans n11.h).trans s12, seen, _, _, _, rfl, s12 p _ e11, by omega, sub, fun j hj hji hm => ?_⟩
        by_cases hjs : j < i
        · exact m10 j hj hjs hm
        · have : j = i := by omega
          subst this
          have ha : (N.rods[j].a : Int) ∈ seen := sub _ hm
          rw [decide_eq_true ha] at hk
          by_cases hb : (N.rods[j].b : Int) ∈ seen
          · exact hb
          · rw [decide_eq_false hb] at hk
            exact nomatch hk
    · rintro F10 σ10 H10 ⟨rfl, sF10, sH10, seen, d2, e2, g2, rfl, e10, l10, sub, m10⟩
      rw [List.length_map] at l10
      refine ⟨F7, rfl, (n8.f.trans n9.f).trans sF10, sH10, seen, _, _, _, _, rfl, e10, by omega, fun k hk hkn => ?_⟩
      by_cases hkt : k ≤ t
      · exact sub _ (m7 k hkt hkn)
      · have : k = t + 1 := by omega
        subst this
        obtain ⟨r, hr1, hr2⟩ := ok.con (t + 1) (by omega) hkn
        obtain ⟨j, hj, ej⟩ := List.getElem_of_mem hr1
        have hlt := (ok.rod r hr1).1
        have hm := m10 j hj (by rw [List.length_map]; exact hj) (by rw [ej]; exact m7 r.a (by omega) (by omega))
        rw [ej, hr2] at hm
        exact hm
  · rintro F7 σ7 H7 ⟨rfl, sF7, sH7, seen, c, d', e, g, rfl, e7, l7, m7⟩
    rw [rngD_len] at m7
    have f6p : F7 p = none := n6.out fp (by rw [ep]; exact fun z => nomatch z)
    have dS : Dp K (upd F7 p (.lst (seen.map V.int))) (.ref p) (.list (seen.map PyData.int)) := .lst (sqL_of upd_same) (ints_dpA seen)
    have hlen : N.n ≤ seen.length := by
      have h1 := nat_nodup_len (List.range N.n) (seen.map Int.toNat) List.nodup_range (fun x hx => by
        have hx' := List.mem_range.mp hx
        exact List.mem_map.mpr ⟨(x : Int), m7 x (by omega) hx', by simp⟩)
      rw [List.length_range, List.length_map] at h1
      exact h1
    refine wss_one (ws_ifY (k := false) (F := upd F7 p (.lst (seen.map V.int))) (YT.is (yt_cmp od_lt (ye_callB cd_lenL T.len PySem.boot_len (ya_cons (yv 5 dS) ya_nil)) (yv 1 (Dp.int _))) ?_) (same_add sF7 e7) (fun e => nomatch e) fun _ H8 s8 => wss_nil ?_)
    · rw [List.length_map]
      exact decide_eq_false (by omega)
    · exact q _ F H8 (Nw.hop s1 ((nw4.h.trans sH7).trans s8)) .non
end
end K10
set_option Elab.async false
set_option linter.all false
set_option maxHeartbeats 4000000
/-! Distances of a net, in plain Lean: the table by middles; the table by mending each rod again and again. -/
namespace K10

abbrev Tab := Nat → Nat → Nat
def base0 : Tab := fun x y => if x = y then 0 else 9999
def rodF (f : Tab) (r : Rod) : Tab := fun x y => if (x = r.a ∧ y = r.b) ∨ (x = r.b ∧ y = r.a) then min (f r.a r.b) r.l else f x y
def fwP (f : Tab) (m : Nat) : Tab := fun x y => min (f x y) (f x m + f m y)
def dist (N : Net) : Tab := (List.range N.n).foldl fwP (N.rods.foldl rodF base0)

/-- heights that fit the rods -/
structure Pot (N : Net) (φ : Nat → Nat) : Prop where
  le : ∀ x, φ x ≤ 999
  ab : ∀ r ∈ N.rods, φ r.b ≤ φ r.a + r.l
  ba : ∀ r ∈ N.rods, φ r.a ≤ φ r.b + r.l
/-- what holds of the table behind the rods -/
structure Tb0 (N : Net) (f : Tab) : Prop where
  zero : ∀ x, f x x = 0
  sym : ∀ x y, f x y = f y x
  pot : ∀ φ, Pot N φ → ∀ x y, φ y ≤ φ x + f x y
theorem tb0_base (N : Net) : Tb0 N base0 where
  zero x := if_pos rfl
  sym x y := by
    unfold base0
    by_cases e : x = y
    · rw [if_pos e, if_pos e.symm]
    · rw [if_neg e, if_neg (fun z => e z.symm)]
  pot φ p x y := by
    unfold base0
    by_cases e : x = y
    · rw [if_pos e, e]
      exact Nat.le_refl _
    · rw [if_neg e]
      have := p.le y
      omega
theorem tb0_rod {N : Net} {f : Tab} (t : Tb0 N f) {r : Rod} (hr : r ∈ N.rods) (hab : r.a ≠ r.b) : Tb0 N (rodF f r) where
  zero x := by
    unfold rodF
    rw [if_neg (by omega)]
    exact t.zero x
  sym x y := by
    unfold rodF
    by_cases e : (x = r.a ∧ y = r.b) ∨ (x = r.b ∧ y = r.a)
    · rw [if_pos e, if_pos (by omega)]
    · rw [if_neg e, if_neg (by omega)]
      exact t.sym x y
  pot φ p x y := by
    unfold rodF
    by_cases e : (x = r.a ∧ y = r.b) ∨ (x = r.b ∧ y = r.a)
    · rw [if_pos e]
      have h1 := t.pot φ p r.a r.b
      have h2 := t.pot φ p r.b r.a
      rw [t.sym r.b r.a] at h2
      have h3 := p.ab r hr
      have h4 := p.ba r hr
      rcases e with ⟨e1, e2⟩ | ⟨e1, e2⟩
      · rw [e1, e2]; omega
      · rw [e1, e2]; omega
    · rw [if_neg e]
      exact t.pot φ p x y
theorem rodF_le (f : Tab) (r : Rod) (x y : Nat) : rodF f r x y ≤ max (f x y) (f r.a r.b) := by
  unfold rodF
  split <;> omega
theorem rodF_mono {f : Tab} {r : Rod} (hs : f r.b r.a = f r.a r.b) (x y : Nat) : rodF f r x y ≤ f x y := by
  unfold rodF
  split
  · rename_i e
    rcases e with ⟨e1, e2⟩ | ⟨e1, e2⟩
    · rw [e1, e2]; omega
    · rw [e1, e2, hs]; omega
  · exact Nat.le_refl _
theorem tb0_fold {N : Net} (ok : N.Ok) : ∀ (l : List Rod) (f : Tab), (∀ r ∈ l, r ∈ N.rods) → Tb0 N f → Tb0 N (l.foldl rodF f) ∧ (∀ x y, (l.foldl rodF f) x y ≤ f x y) ∧ ∀ r ∈ l, (l.foldl rodF f) r.a r.b ≤ r.l
  | [], f, _, t => ⟨t, fun _ _ => Nat.le_refl _, fun r hr => absurd hr (by simp)⟩
  | r :: l, f, hl, t => by
    have hr := hl r List.mem_cons_self
    have hab : r.a ≠ r.b := Nat.ne_of_lt (ok.rod r hr).1
    obtain ⟨h1, h2, h3⟩ := tb0_fold ok l (rodF f r) (fun s hs => hl s (List.mem_cons_of_mem _ hs)) (tb0_rod t hr hab)
    refine ⟨h1, fun x y => Nat.le_trans (h2 x y) (rodF_mono (t.sym _ _) x y), fun s hs => ?_⟩
    rcases List.mem_cons.mp hs with e | hs
    · subst e
      refine Nat.le_trans (h2 _ _) ?_
      unfold rodF
      rw [if_pos (.inl ⟨rfl, rfl⟩)]
      exact Nat.min_le_right _ _
    · exact h3 s hs
/-- .. behind m middles -/
structure Tb1 (N : Net) (f : Tab) (m : Nat) : Prop where
  t : Tb0 N f
  rod : ∀ r ∈ N.rods, f r.a r.b ≤ r.l
  tri : ∀ k, k < m → ∀ x y, f x y ≤ f x k + f k y
theorem tb1_step {N : Net} {f : Tab} {m : Nat} (h : Tb1 N f m) : Tb1 N (fwP f m) (m + 1) where
  t := {
    zero := fun x => by
      unfold fwP
      have := h.t.zero x
      omega
    sym := fun x y => by
      unfold fwP
      rw [h.t.sym x y, h.t.sym x m, h.t.sym m y, Nat.add_comm]
    pot := fun φ p x y => by
      unfold fwP
      have h1 := h.t.pot φ p x y
      have h2 := h.t.pot φ p x m
      have h3 := h.t.pot φ p m y
      omega }
  rod := fun r hr => by
    unfold fwP
    have := h.rod r hr
    omega
  tri := fun k hk x y => by
    unfold fwP
    have z := h.t.zero m
    by_cases e : k = m
    · subst e
      omega
    · have hk' : k < m := by omega
      have a1 := h.tri k hk' x y
      have a2 := h.tri k hk' x m
      have a3 := h.tri k hk' m y
      have a4 := h.tri k hk' m m
      omega
theorem tb1_fold {N : Net} : ∀ (k m : Nat) (f : Tab), Tb1 N f m → Tb1 N (((List.range' m k).foldl fwP f)) (m + k)
  | 0, m, f, h => h
  | k + 1, m, f, h => by
    rw [List.range'_succ, List.foldl_cons]
    have q := tb1_fold k (m + 1) (fwP f m) (tb1_step h)
    rw [show m + (k + 1) = m + 1 + k by omega]
    exact q
theorem dist_tb {N : Net} (ok : N.Ok) : Tb1 N (dist N) N.n := by
  obtain ⟨h1, h2, h3⟩ := tb0_fold ok N.rods base0 (fun _ h => h) (tb0_base N)
  have q := tb1_fold (N := N) N.n 0 (N.rods.foldl rodF base0) ⟨h1, h3, fun k hk => absurd hk (Nat.not_lt_zero _)⟩
  rw [Nat.zero_add] at q
  unfold dist
  rw [List.range_eq_range']
  exact q
section
variable {N : Net} (ok : N.Ok)
include ok
theorem dist_zero (x : Nat) : dist N x x = 0 := (dist_tb ok).t.zero x
theorem dist_sym (x y : Nat) : dist N x y = dist N y x := (dist_tb ok).t.sym x y
theorem dist_tri {k : Nat} (hk : k < N.n) (x y : Nat) : dist N x y ≤ dist N x k + dist N k y := (dist_tb ok).tri k hk x y
theorem dist_rod {r : Rod} (hr : r ∈ N.rods) : dist N r.a r.b ≤ r.l := (dist_tb ok).rod r hr
theorem dist_from0 : ∀ p, p < N.n → dist N 0 p ≤ 9 * p := by
  intro p
  induction p using Nat.strongRecOn with
  | ind p ih =>
    intro hp
    by_cases e : p = 0
    · subst e
      rw [dist_zero ok]
      exact Nat.zero_le _
    · obtain ⟨r, hr, hb⟩ := ok.con p (by omega) hp
      obtain ⟨h1, h2, h3, h4⟩ := ok.rod r hr
      have h5 := ih r.a (by omega) (by omega)
      have h6 := dist_tri ok (show r.a < N.n by omega) 0 p
      have h7 := dist_rod ok hr
      rw [hb] at h7
      omega
theorem dist_le {x y : Nat} (hx : x < N.n) (hy : y < N.n) : dist N x y ≤ 54 := by
  have h1 := dist_from0 ok x hx
  have h2 := dist_from0 ok y hy
  have n4 := ok.n4
  have h3 := dist_tri ok (show 0 < N.n by omega) x y
  rw [dist_sym ok x 0] at h3
  omega
/-- the row of a place is a potential, also where one place that no rod holds is raised -/
theorem dist_pot {x : Nat} (hx : x < N.n) (y : Nat) (hy : ∀ r ∈ N.rods, (r.b = y → dist N x y < dist N x r.a + r.l) ∧ (r.a = y → dist N x y < dist N x r.b + r.l)) : Pot N fun z => if z < N.n then dist N x z + (if z = y then 1 else 0) else 0 where
  le z := by
    show (if z < N.n then _ else 0) ≤ 999
    split
    · rename_i hz
      have := dist_le ok hx hz
      split <;> omega
    · omega
  ab r hr := by
    obtain ⟨h1, h2, h3, h4⟩ := ok.rod r hr
    have hd := dist_rod ok hr
    have ht := dist_tri ok (show r.a < N.n by omega) x r.b
    obtain ⟨q1, q2⟩ := hy r hr
    show (if r.b < N.n then _ else 0) ≤ (if r.a < N.n then _ else 0) + r.l
    rw [if_pos h2, if_pos (show r.a < N.n by omega)]
    by_cases e : r.b = y
    · have := q1 e
      rw [if_pos e, if_neg (by omega), e]
      omega
    · rw [if_neg e]
      omega
  ba r hr := by
    obtain ⟨h1, h2, h3, h4⟩ := ok.rod r hr
    have hd := dist_rod ok hr
    have ht := dist_tri ok h2 x r.a
    rw [dist_sym ok r.b r.a] at ht
    obtain ⟨q1, q2⟩ := hy r hr
    show (if r.a < N.n then _ else 0) ≤ (if r.b < N.n then _ else 0) + r.l
    rw [if_pos h2, if_pos (show r.a < N.n by omega)]
    by_cases e : r.a = y
    · have := q2 e
      rw [if_pos e, if_neg (by omega), e]
      omega
    · rw [if_neg e]
      omega
/-- each other place has a rod by which it is reached -/
theorem dist_pred {x y : Nat} (hx : x < N.n) (hy : y < N.n) (hxy : x ≠ y) : ∃ r ∈ N.rods, (r.b = y ∧ dist N x r.a + r.l ≤ dist N x y) ∨ (r.a = y ∧ dist N x r.b + r.l ≤ dist N x y) := by
  rcases Classical.em (∃ r ∈ N.rods, (r.b = y ∧ dist N x r.a + r.l ≤ dist N x y) ∨ (r.a = y ∧ dist N x r.b + r.l ≤ dist N x y)) with c | c
  · exact c
  · exfalso
    have p := dist_pot ok hx y fun r hr => ⟨fun e => by
      rcases Nat.lt_or_ge (dist N x y) (dist N x r.a + r.l) with z | z
      · exact z
      · exact absurd ⟨r, hr, .inl ⟨e, z⟩⟩ c, fun e => by
      rcases Nat.lt_or_ge (dist N x y) (dist N x r.b + r.l) with z | z
      · exact z
      · exact absurd ⟨r, hr, .inr ⟨e, z⟩⟩ c⟩
    have q := (dist_tb ok).t.pot _ p x y
    have z := dist_zero ok x
    simp only [hx, hy, if_true, hxy, if_false] at q
    omega
end

/-! ### the rank of a place -/
theorem filter_lt {p q : Nat → Bool} : ∀ {l : List Nat}, (∀ z, p z = true → q z = true) → (∃ z ∈ l, q z = true ∧ p z = false) → (l.filter p).length < (l.filter q).length
  | [], _, ⟨z, hz, _⟩ => absurd hz (by simp)
  | a :: l, h, ⟨z, hz, h1, h2⟩ => by
    have le : ∀ l : List Nat, (l.filter p).length ≤ (l.filter q).length := by
      intro l
      induction l with
      | nil => exact Nat.le_refl _
      | cons b l ih =>
        rw [List.filter_cons, List.filter_cons]
        by_cases hb : p b = true
        · rw [if_pos hb, if_pos (h b hb)]
          exact Nat.succ_le_succ ih
        · rw [if_neg hb]
          split
          · exact Nat.le_succ_of_le ih
          · exact ih
    rw [List.filter_cons, List.filter_cons]
    rcases List.mem_cons.mp hz with e | hz
    · subst e
      rw [if_neg (by rw [h2]; decide), if_pos h1]
      exact Nat.lt_succ_of_le (le l)
    · have ih := filter_lt (l := l) h ⟨z, hz, h1, h2⟩
      by_cases hb : p a = true
      · rw [if_pos hb, if_pos (h a hb)]
        exact Nat.succ_lt_succ ih
      · rw [if_neg hb]
        split
        · exact Nat.lt_succ_of_lt ih
        · exact ih
def rank (N : Net) (x y : Nat) : Nat := ((List.range N.n).filter fun z => decide (dist N x z < dist N x y)).length
theorem rank_lt {N : Net} {x a y : Nat} (ha : a < N.n) (h : dist N x a < dist N x y) : rank N x a < rank N x y :=
  filter_lt (fun z hz => decide_eq_true (Nat.lt_trans (of_decide_eq_true hz) h)) ⟨a, List.mem_range.mpr ha, decide_eq_true h, decide_eq_false (Nat.lt_irrefl _)⟩
theorem rank_le (N : Net) (x y : Nat) : rank N x y ≤ N.n := by
  have := List.length_filter_le (fun z => decide (dist N x z < dist N x y)) (List.range N.n)
  rw [List.length_range] at this
  exact this
/-- the table by mending, behind t turns -/
structure Bf (N : Net) (g : Tab) (t : Nat) : Prop where
  zero : ∀ x, x < N.n → g x x = 0
  pot : ∀ φ, Pot N φ → ∀ x y, x < N.n → y < N.n → φ y ≤ φ x + g x y
  got : ∀ x y, x < N.n → y < N.n → rank N x y ≤ t → g x y ≤ dist N x y
def base9 : Tab := fun x y => if x = y then 0 else 999
theorem bf_base {N : Net} (ok : N.Ok) : Bf N base9 0 where
  zero x _ := if_pos rfl
  pot φ p x y _ _ := by
    unfold base9
    by_cases e : x = y
    · rw [if_pos e, e]
      exact Nat.le_refl _
    · rw [if_neg e]
      have := p.le y
      omega
  got x y hx hy h := by
    unfold base9
    by_cases e : x = y
    · rw [if_pos e]
      exact Nat.zero_le _
    · exfalso
      obtain ⟨r, hr, z⟩ := dist_pred ok hx hy e
      have hl := (ok.rod r hr).2.2.1
      have pos : dist N x x < dist N x y := by
        rw [dist_zero ok]
        rcases z with ⟨_, z⟩ | ⟨_, z⟩ <;> omega
      have := rank_lt hx pos
      omega
/-- a turn ends: all rods were mended, nothing rose -/
theorem bf_turn {N : Net} (ok : N.Ok) {g g' : Tab} {t : Nat} (b : Bf N g t) (zero : ∀ x, x < N.n → g' x x = 0) (pot : ∀ φ, Pot N φ → ∀ x y, x < N.n → y < N.n → φ y ≤ φ x + g' x y) (le : ∀ x y, x < N.n → y < N.n → g' x y ≤ g x y)
    (rod : ∀ r ∈ N.rods, ∀ x, x < N.n → g' x r.a ≤ g x r.b + r.l ∧ g' x r.b ≤ g x r.a + r.l) : Bf N g' (t + 1) where
  zero := zero
  pot := pot
  got x y hx hy h := by
    by_cases e : x = y
    · subst e
      rw [zero x hx]
      exact Nat.zero_le _
    · obtain ⟨r, hr, z⟩ := dist_pred ok hx hy e
      obtain ⟨h1, h2, h3, h4⟩ := ok.rod r hr
      obtain ⟨q1, q2⟩ := rod r hr x hx
      rcases z with ⟨e1, z⟩ | ⟨e1, z⟩
      · subst e1
        have hr1 := rank_lt (N := N) (x := x) (a := r.a) (y := r.b) (by omega) (by omega)
        have := b.got x r.a hx (by omega) (by omega)
        omega
      · subst e1
        have hr1 := rank_lt (N := N) (x := x) (a := r.b) (y := r.a) h2 (by omega)
        have := b.got x r.b hx h2 (by omega)
        omega
theorem bf_end {N : Net} (ok : N.Ok) {g : Tab} (b : Bf N g N.n) {x y : Nat} (hx : x < N.n) (hy : y < N.n) : g x y = dist N x y := by
  have h1 := b.got x y hx hy (rank_le N x y)
  have p : Pot N fun z => if z < N.n then dist N x z else 0 := by
    have q := dist_pot ok hx N.n fun r hr => ⟨fun e => absurd e (by have := (ok.rod r hr).2.1; omega), fun e => absurd e (by have := (ok.rod r hr); omega)⟩
    have e : (fun z => if z < N.n then dist N x z + (if z = N.n then 1 else 0) else 0) = fun z => if z < N.n then dist N x z else 0 := by
      funext z
      split
      · rw [if_neg (by omega)]
        rfl
      · rfl
    rw [e] at q
    exact q
  have h2 := b.pot _ p x y hx hy
  simp only [hx, hy, if_true, dist_zero ok] at h2
  omega
end K10
set_option Elab.async false
set_option linter.all false
set_option maxRecDepth 100000
set_option maxHeartbeats 4000000
/-! Tables as lists of lists that are stored into; table_of, _law_far. -/
namespace K10
open PySem PySem.Spec PyProof.Rows L2

def rowV (n : Nat) (g : Nat → Nat) : List V := (List.range n).map fun j => V.int (g j : Nat)
def rowD (n : Nat) (g : Nat → Nat) : PyData := .list ((List.range n).map fun j => .int (g j : Nat))
def matD (n : Nat) (f : Tab) : PyData := .list ((List.range n).map fun i => rowD n (f i))
def setT (f : Tab) (i j v : Nat) : Tab := fun x y => if x = i ∧ y = j then v else f x y
theorem rng_at {α : Type} {n i : Nat} (φ : Nat → α) (h : i < n) : ((List.range n).map φ)[i]? = some (φ i) := by
  rw [List.getElem?_map, List.getElem?_range h]
  rfl
theorem rowV_congr {n : Nat} {g g' : Nat → Nat} (h : ∀ j, j < n → g j = g' j) : rowV n g = rowV n g' := by
  unfold rowV
  exact List.map_congr_left fun j hj => by rw [h j (List.mem_range.mp hj)]
theorem rowV_set {n j v : Nat} {g : Nat → Nat} (hj : j < n) : (rowV n g).set j (.int (v : Nat)) = rowV n fun y => if y = j then v else g y := by
  apply List.ext_getElem?
  intro k
  unfold rowV
  by_cases hk : k < n
  · by_cases e : k = j
    · subst e
      rw [List.getElem?_set_self (by rw [List.length_map, List.length_range]; exact hk), rng_at _ hk]
      show _ = some (V.int ((if k = k then v else g k : Nat) : Int))
      rw [if_pos rfl]
    · rw [List.getElem?_set_ne (Ne.symm e), rng_at _ hk, rng_at _ hk]
      show _ = some (V.int ((if k = j then v else g k : Nat) : Int))
      rw [if_neg e]
  · rw [List.getElem?_eq_none (by rw [List.length_set, List.length_map, List.length_range]; omega), List.getElem?_eq_none (by rw [List.length_map, List.length_range]; omega)]
theorem rows_dp {K : PySem.W.Frag} {F : Hp} {n : Nat} (g : Nat → Nat) : DpAll K F (rowV n g) ((List.range n).map fun j => .int (g j : Nat)) := by
  have h := ints_dpA (K := K) (H := F) ((List.range n).map fun j => ((g j : Nat) : Int))
  rw [List.map_map, List.map_map] at h
  exact h

/-- a table at t, its rows at as: nobody else knows them -/
structure Ms (Hb F H : Hp) (t : Addr) (n : Nat) (as : List Addr) (f : Tab) : Prop where
  sF : Same F H
  sB : Same Hb H
  bt : Hb t = none
  ft : F t = none
  ba : ∀ a ∈ as, Hb a = none ∧ F a = none
  len : as.length = n
  nd : as.Nodup
  out : t ∉ as
  top : H t = some (.lst (as.map V.ref))
  row : ∀ i a, as[i]? = some a → H a = some (.lst (rowV n (f i)))
def lrn (F H : Hp) (t : Addr) (as : List Addr) : Hp := fun b => if b = t ∨ b ∈ as then H b else F b
section
variable {Hb F F' H H' : Hp} {t : Addr} {n : Nat} {as : List Addr} {f f' : Tab} {K : PySem.W.Frag}
theorem Ms.at (M : Ms Hb F H t n as f) {i : Nat} (hi : i < n) : ∃ a, as[i]? = some a ∧ a ∈ as ∧ H a = some (.lst (rowV n (f i))) := by
  have h : i < as.length := by rw [M.len]; exact hi
  exact ⟨as[i], List.getElem?_eq_getElem h, List.getElem_mem h, M.row i _ (List.getElem?_eq_getElem h)⟩
theorem Ms.hop (M : Ms Hb F H t n as f) (s : Same H H') : Ms Hb F H' t n as f :=
  ⟨M.sF.trans s, M.sB.trans s, M.bt, M.ft, M.ba, M.len, M.nd, M.out, s _ _ M.top, fun i a e => s _ _ (M.row i a e)⟩
theorem Ms.nw (M : Ms Hb F H t n as f) (w : Nw F H F' H') : Ms Hb F' H' t n as f :=
  ⟨w.i, M.sB.trans w.h, M.bt, w.out M.ft (by rw [M.top]; exact fun z => nomatch z), fun a ha => ⟨(M.ba a ha).1, w.out (M.ba a ha).2 (by
    obtain ⟨i, hi, e⟩ := List.getElem_of_mem ha
    rw [M.row i a (by rw [List.getElem?_eq_getElem hi, e])]
    exact fun z => nomatch z)⟩, M.len, M.nd, M.out, w.h _ _ M.top, fun i a e => w.h _ _ (M.row i a e)⟩
theorem Ms.learn (M : Ms Hb F H t n as f) : Same (lrn F H t as) H := fun b o e => by
  unfold lrn at e
  split at e
  · exact e
  · exact M.sF b o e
theorem Ms.inL (M : Ms Hb F H t n as f) : Same F (lrn F H t as) := fun b o e => by
  unfold lrn
  split
  · rename_i hb
    rcases hb with z | z
    · rw [z, M.ft] at e
      cases e
    · rw [(M.ba b z).2] at e
      cases e
  · exact e
theorem Ms.dp (M : Ms Hb F H t n as f) : Dp K (lrn F H t as) (.ref t) (matD n f) := by
  have top : lrn F H t as t = some (.lst (as.map V.ref)) := by
    unfold lrn
    rw [if_pos (.inl rfl)]
    exact M.top
  refine .lst (sqL_of top) ?_
  have rows : ∀ (l : List Addr) (k : Nat), (∀ i a, l[i]? = some a → a ∈ as ∧ H a = some (.lst (rowV n (f (k + i))))) → DpAll K (lrn F H t as) (l.map V.ref) ((List.range' k l.length).map fun i => rowD n (f i)) := by
    intro l
    induction l with
    | nil => intro k _; exact .nil
    | cons a l ih =>
      intro k h
      rw [List.length_cons, List.range'_succ, List.map_cons, List.map_cons]
      obtain ⟨h1, h2⟩ := h 0 a rfl
      refine .cons (.lst (sqL_of (xs := rowV n (f k)) ?_) (rows_dp (f k))) (ih (k + 1) fun i b e => ?_)
      · unfold lrn
        rw [if_pos (.inr h1)]
        exact h2
      · have := h (i + 1) b (by simpa using e)
        rw [show k + 1 + i = k + (i + 1) by omega]
        exact this
  have q := rows as 0 fun i a e => ⟨List.mem_of_getElem? e, by rw [Nat.zero_add]; exact M.row i a e⟩
  rw [M.len, ← List.range_eq_range'] at q
  exact q
theorem Ms.cong (M : Ms Hb F H t n as f) (h : ∀ x y, x < n → y < n → f x y = f' x y) : Ms Hb F H t n as f' :=
  ⟨M.sF, M.sB, M.bt, M.ft, M.ba, M.len, M.nd, M.out, M.top, fun i a e => by
    have hi : i < n := by rw [← M.len]; exact (List.getElem?_eq_some_iff.mp e).1
    rw [M.row i a e, rowV_congr fun j hj => h i j hi hj]⟩
theorem Ms.set (M : Ms Hb F H t n as f) {i j v : Nat} {a : Addr} (e : as[i]? = some a) (hj : j < n) : Ms Hb F (upd H a (.lst ((rowV n (f i)).set j (.int (v : Nat))))) t n as (setT f i j v) := by
  have ha : a ∈ as := List.mem_of_getElem? e
  obtain ⟨b1, b2⟩ := M.ba a ha
  refine ⟨same_mut M.sF b2, same_mut M.sB b1, M.bt, M.ft, M.ba, M.len, M.nd, M.out, ?_, fun k c ec => ?_⟩
  · have ne : t ≠ a := fun z => M.out (by rw [z]; exact ha)
    rw [upd_ne ne]
    exact M.top
  · by_cases hc : k = i
    · subst hc
      rw [e] at ec
      cases ec
      rw [upd_same, rowV_set hj]
      congr 2
      apply rowV_congr
      intro y _
      unfold setT
      by_cases hy : y = j
      · rw [if_pos hy, if_pos ⟨rfl, hy⟩]
      · rw [if_neg hy, if_neg (fun z => hy z.2)]
    · have hne : c ≠ a := fun z => by
        subst z
        obtain ⟨hk, ek⟩ := List.getElem?_eq_some_iff.mp ec
        obtain ⟨hi, ei⟩ := List.getElem?_eq_some_iff.mp e
        exact hc ((List.getElem_inj M.nd).mp (ek.trans ei.symm))
      rw [upd_ne hne, M.row k c ec]
      congr 2
      apply rowV_congr
      intro y _
      unfold setT
      rw [if_neg (fun z => hc z.1)]
/-- the table is handed on -/
theorem Ms.out' {F0 H0 : Hp} (M : Ms H0 F H t n as f) (w : ∀ b, F b ≠ none → F0 b ≠ none ∨ H0 b = none) (sf : Same F0 F) : Nw F0 H0 (lrn F H t as) H := by
  refine ⟨M.sB, sf.trans M.inL, M.learn, fun b q => ?_⟩
  unfold lrn at q
  split at q
  · rename_i hb
    rcases hb with z | z
    · rw [z]
      exact .inr M.bt
    · exact .inr (M.ba b z).1
  · exact w b q
end

section
variable {X : Cx} {σ : L2.St} {Hb F F' H H' : Hp} {t : Addr} {n i j : Nat} {as : List Addr} {f : Tab} {D : Ends} {o e e1 e2 elt : Expr} {pos p1 p2 : Pos}
theorem ye_mat (hd : YE X o σ F (matD n f)) (h1 : YE X e1 σ F (.int (i : Nat))) (h2 : YE X e2 σ F (.int (j : Nat))) (hi : i < n) (hj : j < n) (q1 : PlainIx e1 := by exact fun _ _ => rfl) (q2 : PlainIx e2 := by exact fun _ _ => rfl) : YE X (.Subscript (.Subscript o e1 p1) e2 p2) σ F (.int (f i j : Nat)) :=
  ye_ixL (ye_ixL hd h1 (d := rowD n (f i)) (atN rfl (rng_at _ hi)) q1) h2 (atN rfl (rng_at (fun j => PyData.int ((f i j : Nat) : Int)) hj)) q2
theorem ws_matSet {v : Nat} (M : Ms Hb F H t n as f) (ho : ∀ (H : Hp) (Q : VK), Q (.ref t) H → WE X o σ H Q) (he : YE X e σ (lrn F H t as) (.int (v : Nat))) (h1 : YE X e1 σ F (.int (i : Nat))) (h2 : YE X e2 σ F (.int (j : Nat))) (hi : i < n) (hj : j < n)
    (k : ∀ H', Ms Hb F H' t n as (setT f i j v) → D.nx σ H') (q1 : PlainIx e1 := by exact fun _ _ => rfl)
    (ha : ∀ v, assign (.Subscript (.Subscript o e1 p1) e2 p2) X.env v = (do
      let ov ← holding [v] (eval (.Subscript o e1 p1) X.env)
      let iv ← holding [v, ov] (eval e2 X.env)
      standAt p2
      holding [v, ov, iv] (setItem ov iv v)
      release [v, ov, iv] []) := by intro _; rfl) (hs : swapsWithSole [.Subscript (.Subscript o e1 p1) e2 p2] e pos.line X.env = pure false := by rfl) (hw : swappedStores [.Subscript (.Subscript o e1 p1) e2 p2] e X.env = pure none := by rfl) (h3 : (assignEach [.Subscript (.Subscript o e1 p1) e2 p2] X.env).map (·.2) = [assign (.Subscript (.Subscript o e1 p1) e2 p2) X.env] := by rfl) :
    WS X (.Assign [.Subscript (.Subscript o e1 p1) e2 p2] e pos) D σ H := by
  refine ws_sub (he H M.learn _ fun u F2 H2 n2 du => ?_) ha hs hw h3
  cases dp_int du
  have M2 := M.hop n2.h
  refine go_e (pe_ix ix_list pe_we pe_we q1) (ho H2 _ (h1 H2 M2.sF _ fun y F3 H3 n3 dy => ?_))
  have M3 := M2.hop n3.h
  obtain ⟨a, ea, hm, hrow⟩ := M3.at hi
  refine ⟨t, as.map V.ref, i, .ref a, rfl, dp_int dy, SqL.of M3.top, atI_nat (by rw [List.getElem?_map, ea]; rfl), ?_⟩
  refine h2 H3 M3.sF _ fun z F4 H4 n4 dz => ?_
  have M4 := M3.hop n4.h
  refine ⟨a, rowV n (f i), j, j, rfl, dp_int dz, M4.row i a ea, ?_, k _ (M4.set ea hj)⟩
  have hl : (rowV n (f i)).length = n := by unfold rowV; rw [List.length_map, List.length_range]
  unfold ixN
  rw [hl, if_pos (by omega), if_pos (by omega)]
  simp
/-- a new table by a comprehension of comprehensions -/
theorem lc_mat {K : PySem.W.Frag} {wi : TI} {gg : TG} {te : TE} {vs : List Nat} (hw : ∀ H, Same F H → ∀ R : It → Hp → Prop, (∀ J F' H', Nw F H F' H' → Good K J F' (rngD 0 n) → R J H') → wi σ H R) (hn : n ≤ 1000)
    (ht : ∀ i F1 H1, i < n → Same F F1 → Same F1 H1 → ∃ σ2, (∀ Q : L2.St → Hp → Prop, Q σ2 H1 → gg (.int (i : Nat)) (wipe σ vs) H1 Q) ∧ wipe σ2 vs = wipe σ vs ∧ ∀ Q : VK, (∀ p F3 H3, Nw F1 H1 F3 H3 → H1 p = none → F3 p = none → H3 p = some (.lst (rowV n (f i))) → Q (.ref p) H3) → te σ2 H1 Q)
    (H : Hp) (s : Same F H) (Q : VK) (q : ∀ p as F' H', Nw F H F' H' → Ms H F' H' p n as f → Q (.ref p) H') : tLc wi gg tYes te vs σ H Q := by
  refine hw H s _ fun J F0 H0 n0 gd => fun Dl hD => ?_
  have f0 : F0 Dl = none := n0.i.free hD
  have hD0 : H Dl = none := n0.h.free hD
  refine ⟨fun i m H' => m = n - i ∧ i ≤ n ∧ ∃ (F1 : Hp) (as : List Addr), Nw F0 H0 F1 H' ∧ F1 Dl = none ∧ H' Dl = some (.lst (as.map V.ref)) ∧ as.length = i ∧ as.Nodup ∧ Dl ∉ as ∧ (∀ a ∈ as, H a = none ∧ F1 a = none) ∧ ∀ k a, as[k]? = some a → H' a = some (.lst (rowV n (f k))),
    ⟨n, by simp, Nat.zero_le _, F0, [], ⟨same_new hD, Same.refl _, same_mut n0.i f0, fun b z => .inl z⟩, f0, upd_same, rfl, List.nodup_nil, by simp, by simp, by simp⟩, ?_⟩
  rintro i m H1 ⟨rfl, hi, F1, as, n1, f1, e1, al, an, ao, ab, ar⟩
  by_cases hlt : i < n
  · refine .inr ⟨gd.go H1 (n1.f.trans n1.i) i (by rw [rngD_len]; exact hlt), fun H' => ∃ (F1 : Hp) (as : List Addr), Nw F0 H0 F1 H' ∧ F1 Dl = none ∧ H' Dl = some (.lst (as.map V.ref)) ∧ as.length = i + 1 ∧ as.Nodup ∧ Dl ∉ as ∧ (∀ a ∈ as, H a = none ∧ F1 a = none) ∧ ∀ k a, as[k]? = some a → H' a = some (.lst (rowV n (f k))), fun H' z => ⟨n - (i + 1), by omega, rfl, hlt, z⟩, fun u H2 y => ?_⟩
    obtain ⟨F2, d, n2, hd, du⟩ := gd.yld F1 H1 n1.f n1.i i u H2 (by rw [rngD_len]; exact hlt) y
    rw [rngD_at hlt, Nat.zero_add] at hd
    cases hd
    cases dp_int du
    obtain ⟨σ2, hg, hwp, hte⟩ := ht i F2 H2 hlt ((n0.f.trans n1.f).trans n2.f) n2.i
    refine hg _ ⟨hwp, ?_⟩
    have f2 : F2 Dl = none := n2.out f1 (by rw [e1]; exact fun z => nomatch z)
    have e2 : H2 Dl = some (.lst (as.map V.ref)) := n2.h Dl _ e1
    change te σ2 H2 _
    refine hte _ fun p F4 H4 n4 hp fp ep => ⟨as.map V.ref, n4.h Dl _ e2, ?_, F4, as ++ [p], ?_, ?_, ?_, ?_, ?_, ?_, ?_, ?_⟩
    · rw [List.length_map, al]
      exact sz4l (by omega)
    · have w := (n1.trans n2).trans n4
      have f4 : F4 Dl = none := n4.out f2 (by rw [e2]; exact fun z => nomatch z)
      exact ⟨same_mut w.h hD, w.f, same_mut w.i f4, w.n⟩
    · exact n4.out f2 (by rw [e2]; exact fun z => nomatch z)
    · rw [upd_same, List.map_append]
      rfl
    · rw [List.length_append, List.length_singleton, al]
    · refine List.nodup_append.mpr ⟨an, by simp, fun a ha b hb => ?_⟩
      rw [List.mem_singleton] at hb
      subst hb
      obtain ⟨k, hk, ek⟩ := List.getElem_of_mem ha
      have z := n2.h _ _ (ar k a (by rw [List.getElem?_eq_getElem hk, ek]))
      intro c
      rw [c, hp] at z
      cases z
    · intro z
      rcases List.mem_append.mp z with z | z
      · exact ao z
      · rw [List.mem_singleton] at z
        rw [← z, e2] at hp
        cases hp
    · intro a ha
      rcases List.mem_append.mp ha with z | z
      · obtain ⟨k, hk, ek⟩ := List.getElem_of_mem z
        have w := ar k a (by rw [List.getElem?_eq_getElem hk, ek])
        exact ⟨(ab a z).1, (n2.trans n4).out (ab a z).2 (by rw [w]; exact fun z => nomatch z)⟩
      · rw [List.mem_singleton] at z
        rw [z]
        exact ⟨(n0.h.trans (n1.h.trans n2.h)).free hp, fp⟩
    · intro k a ea
      have nDp : Dl ≠ p := fun z => by
        rw [← z, e2] at hp
        cases hp
      by_cases hk : k < as.length
      · rw [List.getElem?_append_left hk] at ea
        have w := ar k a ea
        have ha : a ≠ Dl := fun z => ao (z ▸ List.mem_of_getElem? ea)
        rw [upd_ne ha]
        exact n4.h _ _ (n2.h _ _ w)
      · rw [List.getElem?_append_right (by omega)] at ea
        have hk0 : k - as.length = 0 := by
          have := (List.getElem?_eq_some_iff.mp ea).1
          rw [List.length_singleton] at this
          omega
        rw [hk0] at ea
        cases ea
        have : k = i := by omega
        subst this
        rw [upd_ne nDp.symm]
        exact ep
  · have e : i = n := by omega
    subst e
    refine .inl ⟨by have := gd.stop H1 (n1.f.trans n1.i); rw [rngD_len] at this; exact this, q Dl as F1 H1 (n0.trans n1) ⟨n1.i, n0.h.trans n1.h, hD0, f1, ab, al, an, ao, e1, ar⟩⟩
theorem ws_setMat (l : Nat) {py spos pos' : Pos} {y : Str} {tg iter : Expr} {scope : Scope} {own : List (Str × Nat)} (hc : X.calm = true) (nd : X.N.Nodup) (s : Same F H) (S : Src X tg iter σ F (rngD 0 n)) (ok : BlkOk X.N X.env.scope scope own) (hn : n ≤ 1000)
    (ht : ∀ i F1 H1, i < n → Same F F1 → Same F1 H1 → ∃ σ2, (∀ (s0 : Shared) (H0 : Hp) (C : Addr) (cl : List (Str × Addr)) (fp : List Addr) (Q : L2.St → Hp → Prop), Q σ2 H1 → WG (bk X scope s0 H0 C cl fp) tg (.int (i : Nat)) (wipe σ (own.map (·.2))) H1 Q) ∧ wipe σ2 (own.map (·.2)) = wipe σ (own.map (·.2)) ∧
      ∀ (s0 : Shared) (H0 : Hp) (C : Addr) (cl : List (Str × Addr)) (fp : List Addr), YL (bk X scope s0 H0 C cl fp) elt σ2 F1 ((List.range n).map fun j => .int (f i j : Nat)))
    (q : ∀ p as F' H', Nw F H F' H' → Ms H F' H' p n as f → D.nx (σ.set l (some (.ref p))) H')
    (hsw : swapsWith (.ListComp elt [⟨tg, iter, [], 0⟩] scope pos') (some (.Name y py)) spos.line X.env = pure true) (hy : X.N[l]? = some y := by rfl) (hyl : X.env.scope.names.lookup y = some .local := by rfl) (hs : ∀ x, foldedSetIterable iter X.env x = pure x := by intro _; rfl) :
    WS X (.Assign [.Name y py] (.ListComp elt [⟨tg, iter, [], 0⟩] scope pos') spos) D σ H := by
  obtain ⟨wi, hi, hw⟩ := S
  refine go_s (ps_setLc (g := fun v σ H Q => ∀ s0 H0 C cl fp, WG (bk X scope s0 H0 C cl fp) tg v σ H Q) (te := fun σ H Q => ∀ s0 H0 C cl fp, WE (bk X scope s0 H0 C cl fp) elt σ H Q) hc nd hy hyl hsw hi ok
    (fun s0 H0 C cl fp => ⟨fun pins s σ H v u Q I r h => h s0 H0 C cl fp pins s u I r⟩) (fun _ _ _ _ _ => pts_nil) (fun s0 H0 C cl fp => ⟨fun pins s σ H Q I h => h s0 H0 C cl fp pins s I⟩) hs) ?_
  refine lc_mat (f := f) hw hn (fun i F1 H1 hi s1 s2 => ?_) H s _ q
  obtain ⟨σ2, h1, h2, h3⟩ := ht i F1 H1 hi s1 s2
  refine ⟨σ2, fun Q z s0 H0 C cl fp => h1 s0 H0 C cl fp Q z, h2, fun Q z s0 H0 C cl fp => h3 s0 H0 C cl fp H1 s2 Q fun p xs F3 H3 n3 hp fp' ep dA => ?_⟩
  have e : xs = rowV n (f i) := by
    have e2 : ((List.range n).map fun j => PyData.int ((f i j : Nat) : Int)) = ((List.range n).map fun j => ((f i j : Nat) : Int)).map PyData.int := by rw [List.map_map]; rfl
    rw [e2] at dA
    have := dpA_ints dA
    rw [this, List.map_map]
    rfl
  rw [e] at ep
  exact z p F3 H3 n3 hp fp' ep
end
end K10
set_option Elab.async false
set_option linter.all false
set_option maxRecDepth 100000
set_option maxHeartbeats 4000000
/-! table_of and _law_far both give dist. -/
namespace K10
open PySem PySem.Spec PyProof.Rows L2

theorem min_cast (a b : Nat) : (if ((b : Nat) : Int) < (a : Int) then (b : Int) else (a : Int)) = ((min a b : Nat) : Int) := by
  by_cases h : b < a
  · rw [if_pos (by omega)]
    omega
  · rw [if_neg (by omega)]
    omega
theorem dist_fold {N : Net} (ok : N.Ok) (m : Nat) : Tb1 N ((List.range m).foldl fwP (N.rods.foldl rodF base0)) m := by
  obtain ⟨h1, h2, h3⟩ := tb0_fold ok N.rods base0 (fun _ h => h) (tb0_base N)
  have q := tb1_fold (N := N) m 0 (N.rods.foldl rodF base0) ⟨h1, h3, fun k hk => absurd hk (Nat.not_lt_zero _)⟩
  rw [Nat.zero_add, ← List.range_eq_range'] at q
  exact q
theorem nwW {F H F5 H5 F6 H6 : Hp} (wf : ∀ b, F5 b ≠ none → F b ≠ none ∨ H b = none) (sB : Same H H5) (n : Nw F5 H5 F6 H6) : ∀ b, F6 b ≠ none → F b ≠ none ∨ H b = none := fun b q => by
  rcases n.n b q with z | z
  · exact wf b z
  · exact .inr (sB.free z)
theorem Ms.back {Hb F F' H : Hp} {t : Addr} {n : Nat} {as : List Addr} {f : Tab} (M : Ms Hb F' H t n as f) (s : Same F F') : Ms Hb F H t n as f :=
  ⟨s.trans M.sF, M.sB, M.bt, s.free M.ft, fun a ha => ⟨(M.ba a ha).1, s.free (M.ba a ha).2⟩, M.len, M.nd, M.out, M.top, M.row⟩
abbrev nTable : List Str := ["net", "many", "rods", "one", "other", "found", "length", "middle"]
theorem scTable : FnScope nTable ["net"] (defScope (topS 22)) := ⟨rfl, rfl, rfl, by decide +kernel, rfl, by decide +kernel, by decide +kernel⟩
theorem rod_two {f : Tab} {r : Rod} (hab : r.a ≠ r.b) (x y : Nat) : setT (setT f r.a r.b (min (f r.a r.b) r.l)) r.b r.a (setT f r.a r.b (min (f r.a r.b) r.l) r.a r.b) x y = rodF f r x y := by
  unfold setT rodF
  by_cases e1 : x = r.b ∧ y = r.a
  · rw [if_pos e1, if_pos ⟨rfl, rfl⟩, if_pos (.inr e1)]
  · rw [if_neg e1]
    by_cases e2 : x = r.a ∧ y = r.b
    · rw [if_pos e2, if_pos (.inl e2)]
    · rw [if_neg e2, if_neg (by omega)]
/-- the table within the m-th middle: rows ahead of i, and of row i the places ahead of j, are done -/
def fwAt (f : Tab) (m i j : Nat) : Tab := fun x y => if x < i ∨ (x = i ∧ y < j) then fwP f m x y else f x y
theorem fwAt_step {f : Tab} {m i j : Nat} (hz : f m m = 0) (x y : Nat) : setT (fwAt f m i j) i j (min (fwAt f m i j i j) (fwAt f m i j i m + fwAt f m i j m j)) x y = fwAt f m i (j + 1) x y := by
  have a1 : fwAt f m i j i m = f i m := by
    unfold fwAt fwP
    split
    · omega
    · rfl
  have a2 : fwAt f m i j m j = f m j := by
    unfold fwAt fwP
    split
    · omega
    · rfl
  have a3 : fwAt f m i j i j = f i j := by
    unfold fwAt
    rw [if_neg (by omega)]
  rw [a1, a2, a3]
  unfold setT
  by_cases e : x = i ∧ y = j
  · rw [if_pos e]
    unfold fwAt
    rw [if_pos (by omega), e.1, e.2]
    rfl
  · rw [if_neg e]
    unfold fwAt
    by_cases h : x < i ∨ (x = i ∧ y < j)
    · rw [if_pos h, if_pos (by omega)]
    · rw [if_neg h, if_neg (by omega)]
section
variable {P : Program} {w : World} {K : PySem.W.Frag} {mg : Str → Option Value} {base : Heap}
def gTable (ds : List PyData) (d : PyData) : Prop := ∃ (N : Net), ds = [netD N] ∧ N.Ok ∧ d = matD N.n (dist N)
theorem ok_table (T : Top K mg) : Dn P w K mg base "table_of" 1 L2.CX0 ["net"] (PuD K 1 gTable) := by
  refine dn0 T.aTable scTable pud_len fun f cdv A outer s H vs Q E hr h => ?_
  obtain ⟨F, ds, d, s1, hA, hn, ⟨N, rfl, ok, rfl⟩, q⟩ := h
  obtain ⟨v1, rfl, h1⟩ := dpA1 hA
  have n1 := ok.n1
  have n4 := ok.n4
  refine wss_cons (ws_asg (YE.w (yv 0 h1) s1 fun u F2 H2 n2 du => ?_))
  refine wg_two 1 2 rfl scTable.nd n2.i du fun um ur dm dr => ?_
  cases dp_int dm
  -- found = [[..] ..]
  refine wss_cons (ws_setMat (n := N.n) (f := base0) (own := [("one", 3)]) 5 rfl scTable.nd n2.i (src_rng1 T.range (ya_cons (yv 1 (Dp.int _)) ya_nil) (by omega)) (blkOk_by (N := nTable) (sc := defScope (topS 22)) (by decide +kernel)) (by omega)
    (fun i F1 H1 hi s2 s3 => ⟨_, fun s0 H0 C cl fp Q z => go_g (pg_name (i := 3) scTable.nd rfl (Or.inr rfl)) z, rfl, fun s0 H0 C cl fp =>
      YL.is (yl_comp (own := [("other", 4)]) rfl scTable.nd (src_rng1 (n := N.n) T.range (ya_cons (yv 1 (Dp.int _)) ya_nil) (by omega)) (blkOk_by (N := nTable) (sc := relS _ (defScope (topS 22))) (by decide +kernel)) (by rw [rngD_len]; omega) (fun d => match d with | .int j => .int (if (i : Int) = j then 0 else 9999) | _ => .none)
        fun d hd => tn1 4 scTable.nd (fun _ => rfl) (fun F3 u s4 du s0 H0 C cl fp => by
          obtain ⟨j, hj, rfl⟩ := rngD_mem hd
          refine YE.is (ye_if (d := .int (if (i : Int) = ((0 + j : Nat) : Int) then 0 else 9999)) (yt_cmp od_eqI (yv 3 (Dp.int (i : Int))) (yv 4 du)) (fun e => YE.is ye_int ?_) (fun e => YE.is ye_int ?_)) rfl
          · rw [if_pos (of_decide_eq_true e)]
          · rw [if_neg (of_decide_eq_false e)]) (fun _ _ _ _ _ => pg_name (i := 4) scTable.nd rfl (Or.inl rfl))) ?_⟩)
    (fun t as F3 H3 n3 M3 => ?_) (sw_true rfl rfl rfl (by decide +kernel)))
  · unfold rngD
    rw [List.map_map]
    refine List.map_congr_left fun j _ => ?_
    show PyData.int (if (i : Int) = ((0 + j : Nat) : Int) then 0 else 9999) = PyData.int ((base0 i j : Nat) : Int)
    unfold base0
    by_cases e : i = j
    · rw [if_pos (by omega), if_pos e]
      rfl
    · rw [if_neg (by omega), if_neg e]
      rfl
  have dr3 := Dpx dr n3.f
  have nw3 : Nw F H F3 H3 := n2.trans n3
  have ho : ∀ {σ : L2.St} {p5 : Pos} (hσ : σ[5]? = some (some (.ref t))), ∀ (H' : Hp) (Q : VK), Q (.ref t) H' → WE (cxOf L2.CX0 P w K mg base nTable "table_of" (defScope (topS 22)) f cdv A outer s H E).nox (.Name "found" p5) σ H' Q := fun hσ H' Q z => we_var 5 z hσ
  have sBH : Same H H2 := n2.h
  -- the rods
  refine wss_cons (ws_for PassesOwn.never rfl (src_tup (yv 2 dr3)) M3.sF fun F4 H4 n4' => ⟨fun i F5 σ5 H5 => F5 = F4 ∧ Ms H2 F4 H5 t N.n as ((N.rods.take i).foldl rodF base0) ∧ ∃ a b c e, σ5 = [some v1, some (.int N.n), some ur, a, b, some (.ref t), c, e], ⟨rfl, M3.nw n4', none, none, none, none, rfl⟩, ?_, ?_, ?_⟩)
  · rintro i F5 σ5 H5 ⟨rfl, M, _⟩
    exact ⟨Same.refl _, M.sF⟩
  · rintro i d F5 σ5 H5 F6 H6 u hd ⟨rfl, M5, a, b, c, e, rfl⟩ n6 du6
    have hi : i < N.rods.length := by
      have := (List.getElem?_eq_some_iff.mp hd).1
      rw [List.length_map] at this
      exact this
    rw [List.getElem?_map, List.getElem?_eq_getElem hi] at hd
    cases hd
    obtain ⟨r1, r2, r3, r4⟩ := ok.rod _ (List.getElem_mem hi)
    refine wg_three 3 4 6 rfl scTable.nd n6.i du6 fun w1 w2 w3 g1 g2 g3 => ?_
    cases dp_int g1
    cases dp_int g2
    cases dp_int g3
    have M6 := M5.hop n6.h
    refine wss_cons (ws_matSet M6 (fun H' Q z => we_var 5 z) (YE.is (ye_callB (cd_min2 rfl) T.min PyProof.Rows.boot_min (ya_cons (ye_mat (yv 5 M6.dp) (yv 3 (Dp.int _)) (yv 4 (Dp.int _)) (by omega) r2) (ya_cons (yv 6 (Dp.int _)) ya_nil))) (congrArg PyData.int (min_cast _ _))) (yv 3 (Dp.int _)) (yv 4 (Dp.int _)) (by omega) r2 fun H7 M7 => ?_)
    refine wss_cons (ws_matSet M7 (fun H' Q z => we_var 5 z) (ye_mat (yv 5 M7.dp) (yv 3 (Dp.int _)) (yv 4 (Dp.int _)) (by omega) r2) (yv 4 (Dp.int _)) (yv 3 (Dp.int _)) r2 (by omega) fun H8 M8 => wss_nil ⟨F5, rfl, ?_, _, _, _, _, rfl⟩)
    refine M8.cong fun x y _ _ => ?_
    rw [List.take_add_one, List.getElem?_eq_getElem hi, List.foldl_append, rod_two (by omega)]
    rfl
  rintro F5 σ5 H5 ⟨rfl, M5, a5, b5, c5, e5, rfl⟩
  rw [List.length_map, List.take_length] at M5
  have w5 : ∀ b, F5 b ≠ none → F b ≠ none ∨ H b = none := nwW nw3.n (nw3.h) n4'
  have sf5 : Same F F5 := nw3.f.trans n4'.f
  -- the middles
  refine wss_cons (ws_for PassesOwn.never rfl (src_rng1 (n := N.n) T.range (ya_cons (yv 1 (Dp.int _)) ya_nil) (by omega)) M5.sF fun F6 H6 n6 => ⟨fun m F7 σ7 H7 => F7 = F6 ∧ Ms H2 F6 H7 t N.n as ((List.range m).foldl fwP (N.rods.foldl rodF base0)) ∧ ∃ a b c e, σ7 = [some v1, some (.int N.n), some ur, a, b, some (.ref t), c, e], ⟨rfl, M5.nw n6, a5, b5, c5, e5, rfl⟩, ?_, ?_, ?_⟩)
  · rintro i F7 σ7 H7 ⟨rfl, M, _⟩
    exact ⟨Same.refl _, M.sF⟩
  · rintro m d F7 σ7 H7 F8 H8 u hd ⟨rfl, M7, a, b, c, e, rfl⟩ n8 du8
    have hm : m < N.n := by
      have := (List.getElem?_eq_some_iff.mp hd).1
      rw [rngD_len] at this
      exact this
    rw [rngD_at hm, Nat.zero_add] at hd
    cases hd
    cases dp_int du8
    have M8 := M7.hop n8.h
    generalize hf0 : (List.range m).foldl fwP (N.rods.foldl rodF base0) = f0 at M8
    have hz : f0 m m = 0 := by
      rw [← hf0]
      exact (dist_fold ok m).t.zero m
    refine wg_name 7 scTable.nd ?_
    -- the rows
    refine wss_one (ws_for PassesOwn.never rfl (src_rng1 (n := N.n) T.range (ya_cons (yv 1 (Dp.int _)) ya_nil) (by omega)) M8.sF fun F9 H9 n9 => ⟨fun i F10 σ10 H10 => F10 = F9 ∧ Ms H2 F9 H10 t N.n as (fwAt f0 m i 0) ∧ ∃ a b c, σ10 = [some v1, some (.int N.n), some ur, a, b, some (.ref t), c, some (.int m)], ⟨rfl, (M8.nw n9).cong fun x y _ _ => ?_, _, _, _, rfl⟩, ?_, ?_, ?_⟩)
    · unfold fwAt
      rw [if_neg (by omega)]
    · rintro i F10 σ10 H10 ⟨rfl, M, _⟩
      exact ⟨Same.refl _, M.sF⟩
    · rintro i d F10 σ10 H10 F11 H11 u11 hd ⟨rfl, M10, a, b, c, rfl⟩ n11 du11
      have hi : i < N.n := by
        have := (List.getElem?_eq_some_iff.mp hd).1
        rw [rngD_len] at this
        exact this
      rw [rngD_at hi, Nat.zero_add] at hd
      cases hd
      cases dp_int du11
      have M11 := M10.hop n11.h
      refine wg_name 3 scTable.nd ?_
      -- the places of a row
      refine wss_one (ws_for PassesOwn.never rfl (src_rng1 (n := N.n) T.range (ya_cons (yv 1 (Dp.int _)) ya_nil) (by omega)) M11.sF fun F12 H12 n12 => ⟨fun j F13 σ13 H13 => F13 = F12 ∧ Ms H2 F12 H13 t N.n as (fwAt f0 m i j) ∧ ∃ b c, σ13 = [some v1, some (.int N.n), some ur, some (.int i), b, some (.ref t), c, some (.int m)], ⟨rfl, M11.nw n12, _, _, rfl⟩, ?_, ?_, ?_⟩)
      · rintro j F13 σ13 H13 ⟨rfl, M, _⟩
        exact ⟨Same.refl _, M.sF⟩
      · rintro j d F13 σ13 H13 F14 H14 u14 hd ⟨rfl, M13, b, c, rfl⟩ n14 du14
        have hj : j < N.n := by
          have := (List.getElem?_eq_some_iff.mp hd).1
          rw [rngD_len] at this
          exact this
        rw [rngD_at hj, Nat.zero_add] at hd
        cases hd
        cases dp_int du14
        have M14 := M13.hop n14.h
        refine wg_name 4 scTable.nd ?_
        exact wss_one (ws_matSet M14 (fun H' Q z => we_var 5 z) (YE.is (ye_callB (cd_min2 rfl) T.min PyProof.Rows.boot_min (ya_cons (ye_mat (yv 5 M14.dp) (yv 3 (Dp.int _)) (yv 4 (Dp.int _)) hi hj) (ya_cons (ye_bin od_add (ye_mat (yv 5 M14.dp) (yv 3 (Dp.int _)) (yv 7 (Dp.int _)) hi hm) (ye_mat (yv 5 M14.dp) (yv 7 (Dp.int _)) (yv 4 (Dp.int _)) hm hj)) ya_nil))) (congrArg PyData.int (by rw [← Int.natCast_add]; exact min_cast _ _))) (yv 3 (Dp.int _)) (yv 4 (Dp.int _)) hi hj fun H15 M15 => ⟨F13, rfl, M15.cong fun x y _ _ => fwAt_step hz x y, _, _, rfl⟩)
      · rintro F13 σ13 H13 ⟨rfl, M13, b, c, rfl⟩
        rw [rngD_len] at M13
        refine ⟨F10, rfl, (M13.cong fun x y _ hy => ?_).back n12.f, _, _, _, rfl⟩
        unfold fwAt
        by_cases hx : x < i + 1
        · rw [if_pos (by omega), if_pos (by omega)]
        · rw [if_neg (by omega), if_neg (by omega)]
    · rintro F10 σ10 H10 ⟨rfl, M10, a, b, c, rfl⟩
      rw [rngD_len] at M10
      refine ⟨F7, rfl, (M10.cong fun x y hx _ => ?_).back n9.f, _, _, _, _, rfl⟩
      rw [List.range_succ, List.foldl_append, hf0]
      unfold fwAt
      rw [if_pos (.inl hx)]
      rfl
  · rintro F7 σ7 H7 ⟨rfl, M7, a, b, c, e, rfl⟩
    rw [rngD_len] at M7
    have w7 := nwW w5 (n2.h.trans M5.sB) n6
    have M7' : Ms H F7 H7 t N.n as (dist N) := ⟨M7.sF, n2.h.trans M7.sB, n2.h.free M7.bt, M7.ft, fun a ha => ⟨n2.h.free (M7.ba a ha).1, (M7.ba a ha).2⟩, M7.len, M7.nd, M7.out, M7.top, M7.row⟩
    exact wss_one (ws_ret (we_var 5 (q _ _ H7 (M7'.out' w7 (sf5.trans n6.f)) M7'.dp)))

abbrev nLFar : List Str := ["_law_net_here", "_law_many", "_law_one", "_law_other", "_law_found", "_law_turn", "_law_length", "_law_place"]
theorem scLFar : FnScope nLFar ["_law_net_here"] (defScope (topS 43)) := ⟨rfl, rfl, rfl, by decide +kernel, rfl, by decide +kernel, by decide +kernel⟩
end
/-- a rod mended in one row -/
def rlx (g : Tab) (r : Rod) : Tab := fun x y => if y = r.a then min (g x r.a) (g x r.b + r.l) else if y = r.b then min (g x r.b) (min (g x r.a) (g x r.b + r.l) + r.l) else g x y
def rlxAt (g : Tab) (r : Rod) (p : Nat) : Tab := fun x y => if x < p then rlx g r x y else g x y
theorem rlxAt_step {g : Tab} {r : Rod} {p : Nat} (hab : r.a ≠ r.b) (x y : Nat) :
    setT (setT (rlxAt g r p) p r.a (min (rlxAt g r p p r.a) (rlxAt g r p p r.b + r.l))) p r.b (min (setT (rlxAt g r p) p r.a (min (rlxAt g r p p r.a) (rlxAt g r p p r.b + r.l)) p r.b) (setT (rlxAt g r p) p r.a (min (rlxAt g r p p r.a) (rlxAt g r p p r.b + r.l)) p r.a + r.l)) x y = rlxAt g r (p + 1) x y := by
  have e1 : ∀ y, rlxAt g r p p y = g p y := fun y => by
    unfold rlxAt
    rw [if_neg (Nat.lt_irrefl p)]
  have v1 : ∀ w, setT (rlxAt g r p) p r.a w p r.b = g p r.b := fun w => by
    unfold setT
    rw [if_neg (fun z => hab z.2.symm)]
    exact e1 _
  have v2 : ∀ w, setT (rlxAt g r p) p r.a w p r.a = w := fun w => by
    unfold setT
    rw [if_pos ⟨rfl, rfl⟩]
  rw [v1, v2, e1, e1]
  unfold setT
  by_cases hx : x = p
  · subst hx
    unfold rlxAt
    rw [if_pos (Nat.lt_succ_self x), if_neg (Nat.lt_irrefl x)]
    unfold rlx
    by_cases ya : y = r.a
    · have yb : y ≠ r.b := by rw [ya]; exact hab
      rw [if_neg (show ¬ (x = x ∧ y = r.b) from fun z => yb z.2), if_pos (show x = x ∧ y = r.a from ⟨rfl, ya⟩), if_pos ya]
    · by_cases yb : y = r.b
      · rw [if_pos (show x = x ∧ y = r.b from ⟨rfl, yb⟩), if_neg ya, if_pos yb]
      · rw [if_neg (show ¬ (x = x ∧ y = r.b) from fun z => yb z.2), if_neg (show ¬ (x = x ∧ y = r.a) from fun z => ya z.2), if_neg ya, if_neg yb]
  · rw [if_neg (fun z => hx z.1), if_neg (fun z => hx z.1)]
    unfold rlxAt
    by_cases hp : x < p
    · rw [if_pos hp, if_pos (by omega)]
    · rw [if_neg hp, if_neg (by omega)]
theorem rlx_le (g : Tab) (r : Rod) (x y : Nat) : rlx g r x y ≤ g x y := by
  unfold rlx
  by_cases ya : y = r.a
  · rw [if_pos ya, ya]
    exact Nat.min_le_left _ _
  · rw [if_neg ya]
    by_cases yb : y = r.b
    · rw [if_pos yb, yb]
      exact Nat.min_le_left _ _
    · rw [if_neg yb]
      exact Nat.le_refl _
/-- within a turn, i rods mended -/
structure Bt (N : Net) (g0 g : Tab) (i : Nat) : Prop where
  zero : ∀ x, x < N.n → g x x = 0
  pot : ∀ φ, Pot N φ → ∀ x y, x < N.n → y < N.n → φ y ≤ φ x + g x y
  le : ∀ x y, x < N.n → y < N.n → g x y ≤ g0 x y
  rod : ∀ j (h : j < N.rods.length), j < i → ∀ x, x < N.n → g x N.rods[j].a ≤ g0 x N.rods[j].b + N.rods[j].l ∧ g x N.rods[j].b ≤ g0 x N.rods[j].a + N.rods[j].l
theorem bt_step {N : Net} (ok : N.Ok) {g0 g : Tab} {i : Nat} (b : Bt N g0 g i) (hi : i < N.rods.length) : Bt N g0 (rlx g N.rods[i]) (i + 1) := by
  obtain ⟨r1, r2, r3, r4⟩ := ok.rod _ (List.getElem_mem hi)
  refine ⟨fun x hx => ?_, fun φ p x y hx hy => ?_, fun x y hx hy => Nat.le_trans (rlx_le g _ x y) (b.le x y hx hy), fun j h hj x hx => ?_⟩
  · have := b.zero x hx
    have := rlx_le g N.rods[i] x x
    omega
  · have ha := b.pot φ p x N.rods[i].a hx (by omega)
    have hb := b.pot φ p x N.rods[i].b hx r2
    have h := b.pot φ p x y hx hy
    have pa := p.ab _ (List.getElem_mem hi)
    have pb := p.ba _ (List.getElem_mem hi)
    unfold rlx
    by_cases ya : y = N.rods[i].a
    · rw [if_pos ya, ya]
      omega
    · rw [if_neg ya]
      by_cases yb : y = N.rods[i].b
      · rw [if_pos yb, yb]
        omega
      · rw [if_neg yb]
        exact h
  · by_cases e : j < i
    · obtain ⟨q1, q2⟩ := b.rod j h e x hx
      exact ⟨Nat.le_trans (rlx_le g _ x _) q1, Nat.le_trans (rlx_le g _ x _) q2⟩
    · have : j = i := by omega
      subst this
      have ha := b.le x N.rods[j].a hx (by omega)
      have hb := b.le x N.rods[j].b hx r2
      unfold rlx
      rw [if_pos rfl, if_neg (by omega), if_pos rfl]
      omega
section
variable {P : Program} {w : World} {K : PySem.W.Frag} {mg : Str → Option Value} {base : Heap}
theorem ok_lfar (T : Top K mg) : Dn P w K mg base "_law_far" 1 L2.CX0 ["_law_net_here"] (PuD K 1 gTable) := by
  refine dn0 T.aLFar scLFar pud_len fun f cdv A outer s H vs Q E hr h => ?_
  obtain ⟨F, ds, d, s1, hA, hn, ⟨N, rfl, ok, rfl⟩, q⟩ := h
  obtain ⟨v1, rfl, h1⟩ := dpA1 hA
  have n1 := ok.n1
  have n4 := ok.n4
  refine wss_cons (ws_set 1 scLFar.nd (YE.w (d := .int N.n) (ye_ixT (yv 0 h1) ye_int (by rfl)) s1 fun u F2 H2 n2 du => ?_))
  cases dp_int du
  -- found = [[..] ..]
  refine wss_cons (ws_setMat (n := N.n) (f := base9) (own := [("_law_one", 2)]) 4 rfl scLFar.nd n2.i (src_rng1 T.range (ya_cons (yv 1 (Dp.int _)) ya_nil) (by omega)) (blkOk_by (N := nLFar) (sc := defScope (topS 43)) (by decide +kernel)) (by omega)
    (fun i F1 H1 hi s2 s3 => ⟨_, fun s0 H0 C cl fp Q z => go_g (pg_name (i := 2) scLFar.nd rfl (Or.inr rfl)) z, rfl, fun s0 H0 C cl fp =>
      YL.is (yl_comp (own := [("_law_other", 3)]) rfl scLFar.nd (src_rng1 (n := N.n) T.range (ya_cons (yv 1 (Dp.int _)) ya_nil) (by omega)) (blkOk_by (N := nLFar) (sc := relS _ (defScope (topS 43))) (by decide +kernel)) (by rw [rngD_len]; omega) (fun d => match d with | .int j => .int (if (i : Int) = j then 0 else 999) | _ => .none)
        fun d hd => tn1 3 scLFar.nd (fun _ => rfl) (fun F3 u s4 du s0 H0 C cl fp => by
          obtain ⟨j, hj, rfl⟩ := rngD_mem hd
          refine YE.is (ye_if (d := .int (if (i : Int) = ((0 + j : Nat) : Int) then 0 else 999)) (yt_cmp od_eqI (yv 2 (Dp.int (i : Int))) (yv 3 du)) (fun e => YE.is ye_int ?_) (fun e => YE.is ye_int ?_)) rfl
          · rw [if_pos (of_decide_eq_true e)]
          · rw [if_neg (of_decide_eq_false e)]) (fun _ _ _ _ _ => pg_name (i := 3) scLFar.nd rfl (Or.inl rfl))) ?_⟩)
    (fun t as F3 H3 n3 M3 => ?_) (sw_true rfl rfl rfl (by decide +kernel)))
  · unfold rngD
    rw [List.map_map]
    refine List.map_congr_left fun j _ => ?_
    show PyData.int (if (i : Int) = ((0 + j : Nat) : Int) then 0 else 999) = PyData.int ((base9 i j : Nat) : Int)
    unfold base9
    by_cases e : i = j
    · rw [if_pos (by omega), if_pos e]
      rfl
    · rw [if_neg (by omega), if_neg e]
      rfl
  have h3 := Dpx h1 (n2.f.trans n3.f)
  have nw3 : Nw F H F3 H3 := n2.trans n3
  -- the turns
  refine wss_cons (ws_for PassesOwn.never rfl (src_rng1 (n := N.n) T.range (ya_cons (yv 1 (Dp.int _)) ya_nil) (by omega)) M3.sF fun F4 H4 n4' => ⟨fun t' F5 σ5 H5 => F5 = F4 ∧ (∃ g, Ms H2 F4 H5 t N.n as g ∧ Bf N g t') ∧ ∃ a b c e e', σ5 = [some v1, some (.int N.n), a, b, some (.ref t), c, e, e'], ⟨rfl, ⟨base9, M3.nw n4', bf_base ok⟩, none, none, none, none, none, rfl⟩, ?_, ?_, ?_⟩)
  · rintro i F5 σ5 H5 ⟨rfl, ⟨g, M, _⟩, _⟩
    exact ⟨Same.refl _, M.sF⟩
  · rintro t' d F5 σ5 H5 F6 H6 u hd ⟨rfl, ⟨g0, M5, b5⟩, a, b, c, e, e', rfl⟩ n6 du6
    have M6 := M5.nw n6
    have h6 := Dpx h3 (n4'.f.trans n6.f)
    refine wg_name 5 scLFar.nd ?_
    refine wss_one (ws_for PassesOwn.never rfl (src_tup (ye_ixT (yv 0 h6) ye_int (by rfl))) M6.sF fun F7 H7 n7 => ⟨fun i F8 σ8 H8 => F8 = F7 ∧ (∃ g, Ms H2 F7 H8 t N.n as g ∧ Bt N g0 g i) ∧ ∃ a b e e', σ8 = [some v1, some (.int N.n), a, b, some (.ref t), some u, e, e'], ⟨rfl, ⟨g0, M6.nw n7, b5.zero, b5.pot, fun _ _ _ _ => Nat.le_refl _, fun j _ hj => absurd hj (Nat.not_lt_zero _)⟩, _, _, _, _, rfl⟩, ?_, ?_, ?_⟩)
    · rintro i F8 σ8 H8 ⟨rfl, ⟨g, M, _⟩, _⟩
      exact ⟨Same.refl _, M.sF⟩
    · rintro i d F8 σ8 H8 F9 H9 u9 hd ⟨rfl, ⟨g1, M8, b8⟩, a, b, e, e', rfl⟩ n9 du9
      have hi : i < N.rods.length := by
        have := (List.getElem?_eq_some_iff.mp hd).1
        rw [List.length_map] at this
        exact this
      rw [List.getElem?_map, List.getElem?_eq_getElem hi] at hd
      cases hd
      obtain ⟨r1, r2, r3, r4⟩ := ok.rod _ (List.getElem_mem hi)
      refine wg_three 2 3 6 rfl scLFar.nd n9.i du9 fun w1 w2 w3 g1' g2 g3 => ?_
      cases dp_int g1'
      cases dp_int g2
      cases dp_int g3
      have M9 := M8.nw n9
      refine wss_one (ws_for PassesOwn.never rfl (src_rng1 (n := N.n) T.range (ya_cons (yv 1 (Dp.int _)) ya_nil) (by omega)) M9.sF fun F10 H10 n10 => ⟨fun p F11 σ11 H11 => F11 = F10 ∧ Ms H2 F10 H11 t N.n as (rlxAt g1 N.rods[i] p) ∧ ∃ e', σ11 = [some v1, some (.int N.n), some (.int N.rods[i].a), some (.int N.rods[i].b), some (.ref t), some u, some (.int N.rods[i].l), e'], ⟨rfl, (M9.nw n10).cong fun x y _ _ => ?_, _, rfl⟩, ?_, ?_, ?_⟩)
      · unfold rlxAt
        rw [if_neg (Nat.not_lt_zero _)]
      · rintro p F11 σ11 H11 ⟨rfl, M, _⟩
        exact ⟨Same.refl _, M.sF⟩
      · rintro p d F11 σ11 H11 F12 H12 u12 hd ⟨rfl, M11, e', rfl⟩ n12 du12
        have hp : p < N.n := by
          have := (List.getElem?_eq_some_iff.mp hd).1
          rw [rngD_len] at this
          exact this
        rw [rngD_at hp, Nat.zero_add] at hd
        cases hd
        cases dp_int du12
        have M12 := M11.hop n12.h
        refine wg_name 7 scLFar.nd ?_
        refine wss_cons (ws_matSet M12 (fun H' Q z => we_var 4 z) (YE.is (ye_callB (cd_min2 rfl) T.min PyProof.Rows.boot_min (ya_cons (ye_mat (yv 4 M12.dp) (yv 7 (Dp.int _)) (yv 2 (Dp.int _)) hp (by omega)) (ya_cons (ye_bin od_add (ye_mat (yv 4 M12.dp) (yv 7 (Dp.int _)) (yv 3 (Dp.int _)) hp r2) (yv 6 (Dp.int _))) ya_nil))) (congrArg PyData.int (by rw [← Int.natCast_add]; exact min_cast _ _))) (yv 7 (Dp.int _)) (yv 2 (Dp.int _)) hp (by omega) fun H13 M13 => ?_)
        exact wss_one (ws_matSet M13 (fun H' Q z => we_var 4 z) (YE.is (ye_callB (cd_min2 rfl) T.min PyProof.Rows.boot_min (ya_cons (ye_mat (yv 4 M13.dp) (yv 7 (Dp.int _)) (yv 3 (Dp.int _)) hp r2) (ya_cons (ye_bin od_add (ye_mat (yv 4 M13.dp) (yv 7 (Dp.int _)) (yv 2 (Dp.int _)) hp (by omega)) (yv 6 (Dp.int _))) ya_nil))) (congrArg PyData.int (by rw [← Int.natCast_add]; exact min_cast _ _))) (yv 7 (Dp.int _)) (yv 3 (Dp.int _)) hp r2 fun H14 M14 => ⟨F11, rfl, M14.cong fun x y _ _ => rlxAt_step (by omega) x y, _, rfl⟩)
      · rintro F11 σ11 H11 ⟨rfl, M11, e', rfl⟩
        rw [rngD_len] at M11
        refine ⟨F8, rfl, ⟨_, (M11.cong (f' := rlx g1 N.rods[i]) fun x y hx _ => ?_).back (n9.f.trans n10.f), bt_step ok b8 hi⟩, _, _, _, _, rfl⟩
        unfold rlxAt
        rw [if_pos hx]
    · rintro F8 σ8 H8 ⟨rfl, ⟨g1, M8, b8⟩, a, b, e, e', rfl⟩
      rw [List.length_map] at b8
      refine ⟨F5, rfl, ⟨g1, M8.back (n6.f.trans n7.f), bf_turn ok b5 b8.zero b8.pot b8.le fun r hr x hx => ?_⟩, _, _, _, _, _, rfl⟩
      obtain ⟨j, hj, ej⟩ := List.getElem_of_mem hr
      have := b8.rod j hj hj x hx
      rw [ej] at this
      exact this
  · rintro F5 σ5 H5 ⟨rfl, ⟨g, M5, b5⟩, a, b, c, e, e', rfl⟩
    rw [rngD_len] at b5
    have w5 := nwW nw3.n nw3.h n4'
    have M5d := M5.cong (f' := dist N) fun x y hx hy => bf_end ok b5 hx hy
    have M5' : Ms H F5 H5 t N.n as (dist N) := ⟨M5d.sF, n2.h.trans M5d.sB, n2.h.free M5d.bt, M5d.ft, fun a ha => ⟨n2.h.free (M5d.ba a ha).1, (M5d.ba a ha).2⟩, M5d.len, M5d.nd, M5d.out, M5d.top, M5d.row⟩
    exact wss_one (ws_ret (we_var 4 (q _ _ H5 (M5'.out' w5 (nw3.f.trans n4'.f)) M5'.dp)))
end
end K10
set_option Elab.async false
set_option linter.all false
set_option maxHeartbeats 4000000
/-! Told heights, slope rows: what the program and the law reckon, as plain functions. -/
namespace K10

def adf (a b : Nat) : Nat := (a - b) + (b - a)
abbrev Told := List (Option Nat)
structure TOk (N : Net) (t : Told) : Prop where
  len : t.length = N.n
  le : ∀ h, some h ∈ t → h ≤ 99
/-- the told heights of two places clash -/
def cl (N : Net) (t : Told) (i j : Nat) : Bool := match t.getD i none, t.getD j none with
  | some a, some b => decide (dist N i j < adf a b)
  | _, _ => false
/-- the first pair that clashes -/
structure IsFirst (N : Net) (t : Told) (p : Nat × Nat) : Prop where
  lt : p.1 < p.2
  le : p.2 < t.length
  cl : cl N t p.1 p.2 = true
  first : ∀ i j, i < j → j < t.length → (i < p.1 ∨ (i = p.1 ∧ j < p.2)) → K10.cl N t i j = false
theorem IsFirst.uniq {N : Net} {t : Told} {p q : Nat × Nat} (a : IsFirst N t p) (b : IsFirst N t q) : p = q := by
  have h1 : ¬ (p.1 < q.1 ∨ (p.1 = q.1 ∧ p.2 < q.2)) := fun z => Bool.false_ne_true ((b.first p.1 p.2 a.lt a.le z).symm.trans a.cl)
  have h2 : ¬ (q.1 < p.1 ∨ (q.1 = p.1 ∧ q.2 < p.2)) := fun z => Bool.false_ne_true ((a.first q.1 q.2 b.lt b.le z).symm.trans b.cl)
  have e1 : p.1 = q.1 := by
    rcases Nat.lt_trichotomy p.1 q.1 with z | z | z
    · exact (h1 (.inl z)).elim
    · exact z
    · exact (h2 (.inl z)).elim
  have e2 : p.2 = q.2 := by
    rcases Nat.lt_trichotomy p.2 q.2 with z | z | z
    · exact (h1 (.inr ⟨e1, z⟩)).elim
    · exact z
    · exact (h2 (.inr ⟨e1.symm, z⟩)).elim
  exact Prod.ext e1 e2
open Classical in
noncomputable def clashO (N : Net) (t : Told) : Option (Nat × Nat) := if h : ∃ p, IsFirst N t p then some h.choose else none
theorem clashO_some {N : Net} {t : Told} {p : Nat × Nat} (h : IsFirst N t p) : clashO N t = some p := by
  unfold clashO
  rw [dif_pos ⟨p, h⟩]
  exact congrArg some ((Exists.choose_spec (⟨p, h⟩ : ∃ p, IsFirst N t p)).uniq h)
theorem clashO_none {N : Net} {t : Told} (h : ∀ i j, i < j → j < t.length → cl N t i j = false) : clashO N t = none := by
  unfold clashO
  rw [dif_neg]
  rintro ⟨p, hp⟩
  have := h p.1 p.2 hp.lt hp.le
  rw [hp.cl] at this
  cases this
theorem clashO_is {N : Net} {t : Told} {p : Nat × Nat} (h : clashO N t = some p) : IsFirst N t p := by
  unfold clashO at h
  split at h
  · rename_i hp
    rw [← Option.some.inj h]
    exact hp.choose_spec
  · cases h
theorem clashO_no {N : Net} {t : Told} (h : clashO N t = none) : ∀ i j, i < j → j < t.length → cl N t i j = false := by
  rcases Classical.em (∃ p, IsFirst N t p) with c | c
  · obtain ⟨p, hp⟩ := c
    rw [clashO_some hp] at h
    cases h
  · intro i j hij hj
    cases e : cl N t i j with
    | false => rfl
    | true =>
      exfalso
      -- a least one exists
      have key : ∀ n, ∀ i j, i < j → j < t.length → cl N t i j = true → i * (t.length + 1) + j ≤ n → ∃ p, IsFirst N t p := by
        intro n
        induction n with
        | zero =>
          intro i j hij hj e hb
          have : j = 0 := by omega
          omega
        | succ n ih =>
          intro i j hij hj e hb
          rcases Classical.em (∃ i' j', i' < j' ∧ j' < t.length ∧ (i' < i ∨ (i' = i ∧ j' < j)) ∧ cl N t i' j' = true) with c | c
          · obtain ⟨i', j', h1, h2, h3, h4⟩ := c
            refine ih i' j' h1 h2 h4 ?_
            rcases h3 with z | ⟨z, z2⟩
            · have : (i' + 1) * (t.length + 1) ≤ i * (t.length + 1) := Nat.mul_le_mul_right _ z
              rw [Nat.add_mul] at this
              omega
            · subst z
              omega
          · refine ⟨(i, j), hij, hj, e, fun i' j' h1 h2 h3 => ?_⟩
            cases e2 : cl N t i' j' with
            | false => rfl
            | true => exact absurd ⟨i', j', h1, h2, h3, e2⟩ c
      exact c (key _ i j hij hj e (Nat.le_refl _))

/-- the told places with their heights -/
def toldL (t : Told) : List (Nat × Nat) := (List.range t.length).filterMap fun i => match t.getD i none with
  | some h => some (i, h)
  | none => none
theorem toldL_mem {t : Told} {i h : Nat} : (i, h) ∈ toldL t ↔ i < t.length ∧ t.getD i none = some h := by
  unfold toldL
  rw [List.mem_filterMap]
  constructor
  · rintro ⟨j, hj, e⟩
    cases e2 : t.getD j none with
    | none =>
      rw [e2] at e
      cases e
    | some g =>
      rw [e2] at e
      cases e
      exact ⟨List.mem_range.mp hj, e2⟩
  · rintro ⟨h1, h2⟩
    exact ⟨i, List.mem_range.mpr h1, by rw [h2]⟩
def lowI (N : Net) (t : Told) (p : Nat) : Int := mxI (0 :: (toldL t).map fun x => (x.2 : Int) - (dist N x.1 p : Nat))
def higI (N : Net) (t : Told) (m : Nat) (p : Nat) : Int := mnI ((m : Int) :: (toldL t).map fun x => (x.2 : Int) + (dist N x.1 p : Nat))
/-- all told heights are at most m -/
def tle (t : Told) (m : Nat) : Bool := t.all fun o => match o with
  | some h => decide (h ≤ m)
  | none => true

/-! ### rows -/
def fits (N : Net) (r : List Nat) (h : Nat) : Bool := (List.range r.length).all fun i => decide (adf (r.getD i 0) h ≤ dist N i r.length)
def tm (t : Told) (p h : Nat) : Bool := match t.getD p none with
  | some a => decide (a = h)
  | none => true
def ext (N : Net) (t : Told) (m : Nat) (r : List Nat) : List (List Nat) := ((List.range (m + 1)).filter fun h => fits N r h && tm t r.length h).map fun h => r ++ [h]
def rowsT (N : Net) (t : Told) (m : Nat) : Nat → List (List Nat)
  | 0 => [[]]
  | k + 1 => (rowsT N t m k).flatMap (ext N t m)
theorem ext_len {N : Net} {t : Told} {m : Nat} {r s : List Nat} (h : s ∈ ext N t m r) : s.length = r.length + 1 := by
  obtain ⟨x, _, e⟩ := List.mem_map.mp h
  rw [← e, List.length_append, List.length_singleton]
theorem rowsT_len {N : Net} {t : Told} {m : Nat} : ∀ {k : Nat} {r : List Nat}, r ∈ rowsT N t m k → r.length = k
  | 0, r, h => by
    rw [List.mem_singleton.mp h]
    rfl
  | k + 1, r, h => by
    obtain ⟨s, hs, e⟩ := List.mem_flatMap.mp h
    rw [ext_len e, rowsT_len hs]
theorem ext_few (N : Net) (t : Told) (m : Nat) (r : List Nat) : (ext N t m r).length ≤ m + 1 := by
  unfold ext
  rw [List.length_map]
  have := List.length_filter_le (fun h => fits N r h && tm t r.length h) (List.range (m + 1))
  rw [List.length_range] at this
  exact this
theorem flat_few {α β : Type} {f : α → List β} {m : Nat} (h : ∀ x, (f x).length ≤ m) : ∀ l : List α, (l.flatMap f).length ≤ l.length * m
  | [] => by simp
  | x :: l => by
    rw [List.flatMap_cons, List.length_append, List.length_cons, Nat.add_mul]
    have := flat_few h l
    have := h x
    omega
theorem rowsT_few (N : Net) (t : Told) (m : Nat) : ∀ k, (rowsT N t m k).length ≤ (m + 1) ^ k
  | 0 => Nat.le_refl _
  | k + 1 => by
    have h1 := flat_few (ext_few N t m) (rowsT N t m k)
    have h2 := Nat.mul_le_mul_right (m + 1) (rowsT_few N t m k)
    rw [Nat.pow_succ]
    exact Nat.le_trans h1 h2
theorem adf_le {a b c : Nat} : adf a b ≤ c ↔ a ≤ b + c ∧ b ≤ a + c := by
  unfold adf
  omega
/-- an interval, filtered out of a range -/
theorem range_filter_iv (lo hi : Nat) : ∀ n, hi < n → (List.range n).filter (fun h => decide (lo ≤ h) && decide (h ≤ hi)) = List.range' lo (hi + 1 - lo)
  | 0, h => absurd h (Nat.not_lt_zero _)
  | n + 1, h => by
    rw [List.range_succ, List.filter_append, List.filter_cons, List.filter_nil]
    by_cases e : hi = n
    · subst e
      have below : ∀ k, k ≤ hi → (List.range k).filter (fun h => decide (lo ≤ h) && decide (h ≤ hi)) = List.range' lo (k - lo) := by
        intro k
        induction k with
        | zero =>
          intro _
          rw [Nat.zero_sub]
          rfl
        | succ k ih =>
          intro hk
          rw [List.range_succ, List.filter_append, ih (by omega), List.filter_cons, List.filter_nil]
          by_cases c : lo ≤ k
          · rw [if_pos (by simp; omega), show k + 1 - lo = (k - lo) + 1 by omega, List.range'_concat]
            simp
            omega
          · rw [if_neg (by simp; omega), show k + 1 - lo = 0 by omega, show k - lo = 0 by omega]
            rfl
      rw [below hi (Nat.le_refl _)]
      by_cases c : lo ≤ hi
      · rw [if_pos (by simp; omega), show hi + 1 - lo = (hi - lo) + 1 by omega, List.range'_concat]
        simp
        omega
      · rw [if_neg (by simp; omega), show hi + 1 - lo = 0 by omega, show hi - lo = 0 by omega]
        rfl
    · rw [range_filter_iv lo hi n (by omega), if_neg (by simp; omega), List.append_nil]
end K10
set_option Elab.async false
set_option linter.all false
set_option maxRecDepth 100000
set_option maxHeartbeats 4000000
/-! The program's defs about told heights. -/
namespace K10
open PySem PySem.Spec PyProof.Rows L2

theorem adf_int (a b : Nat) : (if ((a : Int) - (b : Int)) < 0 then -((a : Int) - (b : Int)) else (a : Int) - (b : Int)) = ((adf a b : Nat) : Int) := by
  unfold adf
  split <;> omega
theorem tl_at {t : Told} {i : Nat} (h : i < t.length) : (t.map optD)[i]? = some (optD (t.getD i none)) := by
  rw [List.getElem?_map, List.getElem?_eq_getElem h, List.getD_eq_getElem?_getD, List.getElem?_eq_getElem h]
  rfl
def pairD : Option (Nat × Nat) → PyData
  | none => .none
  | some p => .tuple [.int p.1, .int p.2]
section
variable {P : Program} {w : World} {K : PySem.W.Frag} {mg : Str → Option Value} {base : Heap}
/-! ### low, need_both -/
def gLow (ds : List PyData) (d : PyData) : Prop := ∃ a b : Nat, ds = [.int a, .int b] ∧ (0 < b ∧ b ≤ 1000000) ∧ d = .tuple [.int ((a / Nat.gcd a b : Nat) : Int), .int ((b / Nat.gcd a b : Nat) : Int)]
abbrev nLow : List Str := ["top", "bottom", "shared"]
theorem scLow : FnScope nLow ["top", "bottom"] (defScope (topS 24)) := ⟨rfl, rfl, rfl, by decide +kernel, rfl, by decide +kernel, by decide +kernel⟩
theorem ok_low (T : Top K mg) : Dn P w K mg base "low" 1 L2.CX0 ["top", "bottom"] (PuD K 2 gLow) := by
  refine dn0 T.aLow scLow pud_len fun f cdv A outer s H vs Q E hr h => ?_
  obtain ⟨F, ds, d, s1, hA, hn, ⟨a, b, rfl, ⟨hb, hb2⟩, rfl⟩, q⟩ := h
  obtain ⟨v1, v2, rfl, h1, h2⟩ := dpA2 hA
  have g1 : 0 < Nat.gcd a b := Nat.gcd_pos_of_pos_right _ hb
  have g2 : Nat.gcd a b ≤ b := Nat.gcd_le_right _ hb
  refine wss_cons (ws_set 2 scLow.nd (YE.w (d := .int ((Nat.gcd a b : Nat) : Int)) (ye_callG cd_gcd T.gcd (ya_cons (yv 0 h1) (ya_cons (yv 1 h2) ya_nil))) s1 fun u F2 H2 n2 du => ?_))
  refine wss_one (ws_ret (we_end (fun v F' H' n dv => q v F' H' (n2.trans n) dv) n2.i (ye_tup (ya_cons (ye_bin (od_fdiv (by omega) (by omega)) (yv 0 (Dpx h1 n2.f)) (yv 2 du)) (ya_cons (ye_bin (od_fdiv (by omega) (by omega)) (yv 1 (Dpx h2 n2.f)) (yv 2 du)) ya_nil))) ?_))
  rw [Int.natCast_ediv, Int.natCast_ediv]
def gBoth (ds : List PyData) (d : PyData) : Prop := ∃ (N : Net) (t : Told), ds = [netD N, tlD t] ∧ N.Ok ∧ TOk N t ∧ d = matD N.n (dist N)
abbrev nBoth : List Str := ["net", "told"]
theorem scBoth : FnScope nBoth ["net", "told"] (defScope (topS 27)) := ⟨rfl, rfl, rfl, by decide +kernel, rfl, by decide +kernel, by decide +kernel⟩
theorem ok_both (T : Top K mg) : Dn P w K mg base "need_both" 4 L2.CX0 ["net", "told"] (PuD K 2 gBoth) := by
  have D1 := ok_needNet (P := P) (w := w) (base := base) T
  have D2 := ok_needTold (P := P) (w := w) (base := base) T
  have D3 := ok_table (P := P) (w := w) (base := base) T
  refine dn0 T.aBoth scBoth pud_len fun f cdv A outer s H vs Q E hr h => ?_
  obtain ⟨F, ds, d, s1, hA, hn, ⟨N, t, rfl, ok, tk, rfl⟩, q⟩ := h
  obtain ⟨v1, v2, rfl, h1, h2⟩ := dpA2 hA
  refine wss_cons (ws_expr (YE.w (d := .none) (ye_call D1 hr pass0 (ya_cons (yv 0 h1) ya_nil) ⟨_, rfl, ok, rfl⟩) s1 fun u F2 H2 n2 du => ?_))
  refine wss_cons (ws_expr (YE.w (d := .none) (ye_call D2 hr pass0 (ya_cons (yv 0 (Dpx h1 n2.f)) (ya_cons (yv 1 (Dpx h2 n2.f)) ya_nil)) ⟨_, _, rfl, ok, tk.len, tk.le, rfl⟩) n2.i fun u F3 H3 n3 du => ?_))
  exact wss_one (ws_ret (we_end (fun v F' H' n dv => q v F' H' ((n2.trans n3).trans n) dv) n3.i (ye_call D3 (hr.mono (by decide)) pass0 (ya_cons (yv 0 (Dpx h1 (n2.f.trans n3.f))) ya_nil) ⟨_, rfl, ok, rfl⟩) rfl))
/-! ### clash -/
def gClashOf (ds : List PyData) (d : PyData) : Prop := ∃ (N : Net) (t : Told), ds = [matD N.n (dist N), tlD t] ∧ N.Ok ∧ TOk N t ∧ d = pairD (clashO N t)
abbrev nClashOf : List Str := ["table", "told", "one", "other"]
theorem scClashOf : FnScope nClashOf ["table", "told"] (defScope (topS 28)) := ⟨rfl, rfl, rfl, by decide +kernel, rfl, by decide +kernel, by decide +kernel⟩
theorem ok_clashOf (T : Top K mg) : Dn P w K mg base "clash_of" 1 L2.CX0 ["table", "told"] (PuD K 2 gClashOf) := by
  refine dn0 T.aClashOf scClashOf pud_len fun f cdv A outer s H vs Q E hr h => ?_
  obtain ⟨F, ds, d, s1, hA, hn, ⟨N, t, rfl, ok, tk, rfl⟩, q⟩ := h
  obtain ⟨v1, v2, rfl, h1, h2⟩ := dpA2 hA
  have n4 := ok.n4
  have tl := tk.len
  have lenE : ∀ {σ : L2.St} {G : Hp} {pos p p2 : Pos}, σ[1]? = some (some v2) → Same F G → YA (cxOf L2.CX0 P w K mg base nClashOf "clash_of" (defScope (topS 28)) f cdv A outer s H E).nox [.Call (.Name "len" p) [.Name "told" p2] [] pos] σ G [.int (t.length : Int)] := fun hσ sG =>
    ya_cons (YE.is (ye_callB cd_lenT T.len PySem.boot_len (ya_cons (yv 1 (Dpx h2 sG) hσ) ya_nil)) (by rw [List.length_map])) ya_nil
  refine wss_cons (ws_for PassesOwn.never rfl (src_rng1 (n := t.length) T.range (lenE rfl (Same.refl _)) (by omega)) s1 fun F2 H2 n2 => ⟨fun i F3 σ3 H3 => F3 = F2 ∧ Nw F H F2 H3 ∧ (∀ i' j', i' < i → i' < j' → j' < t.length → cl N t i' j' = false) ∧ ∃ a b, σ3 = [some v1, some v2, a, b], ⟨rfl, n2, fun i' j' h => absurd h (Nat.not_lt_zero _), none, none, rfl⟩, ?_, ?_, ?_⟩)
  · rintro i F3 σ3 H3 ⟨rfl, n, _⟩
    exact ⟨Same.refl _, n.i⟩
  · rintro i d F3 σ3 H3 F4 H4 u hd ⟨rfl, n3, no, a, b, rfl⟩ n4' du
    have hi : i < t.length := by
      have := (List.getElem?_eq_some_iff.mp hd).1
      rw [rngD_len] at this
      exact this
    rw [rngD_at hi, Nat.zero_add] at hd
    cases hd
    cases dp_int du
    have nw4 := n3.trans n4'
    refine wg_name 2 scClashOf.nd ?_
    refine wss_one (ws_for PassesOwn.never rfl (src_rng2 (lo := i + 1) (n := t.length - (i + 1)) T.range (ya_cons (ye_bin od_add (yv 2 (Dp.int _)) ye_int) (ya_cons (YE.is (ye_callB cd_lenT T.len PySem.boot_len (ya_cons (yv 1 (Dpx h2 nw4.f)) ya_nil)) (by rw [List.length_map]; congr 1; omega)) ya_nil)) (by omega)) nw4.i fun F5 H5 n5 => ⟨fun j F6 σ6 H6 => F6 = F5 ∧ Nw F H F5 H6 ∧ (∀ j', i < j' → j' < i + 1 + j → cl N t i j' = false) ∧ ∃ b, σ6 = [some v1, some v2, some (.int i), b], ⟨rfl, nw4.trans n5, fun j' h1 h2 => by omega, _, rfl⟩, ?_, ?_, ?_⟩)
    · rintro j F6 σ6 H6 ⟨rfl, n, _⟩
      exact ⟨Same.refl _, n.i⟩
    · rintro j d F6 σ6 H6 F7 H7 u hd ⟨rfl, n6, no2, b, rfl⟩ n7 du
      have hj : j < t.length - (i + 1) := by
        have := (List.getElem?_eq_some_iff.mp hd).1
        rw [rngD_len] at this
        exact this
      rw [rngD_at hj] at hd
      cases hd
      cases dp_int du
      have hjt : i + 1 + j < t.length := by omega
      have nw7 := n6.trans n7
      refine wg_name 3 scClashOf.nd ?_
      have dT := Dpx h2 nw7.f
      have dM := Dpx h1 nw7.f
      refine wss_one (ws_ifY (yw_pt (yw_and (yt_cmp od_notN (ye_ixT (yv 1 dT) (yv 2 (Dp.int _)) (atN rfl (tl_at hi))) ye_non) fun _ => yw_and1 (yt_cmp od_notN (ye_ixT (yv 1 dT) (yv 3 (Dp.int _)) (atN rfl (tl_at hjt))) ye_non))) nw7.i (fun hk H8 s8 => ?_) (fun hk H8 s8 => wss_nil ⟨F6, rfl, n6.trans (Nw.hop n6.i (n7.h.trans s8)), fun j' h3 h4 => ?_, _, rfl⟩))
      · obtain ⟨k1, k2⟩ := (Bool.and_eq_true _ _).mp hk
        cases ea : t.getD i none with
        | none =>
          rw [ea] at k1
          cases k1
        | some x =>
          cases eb : t.getD (i + 1 + j) none with
          | none =>
            rw [eb] at k2
            cases k2
          | some y =>
            have hcl : cl N t i (i + 1 + j) = decide (dist N i (i + 1 + j) < adf x y) := by
              unfold cl
              rw [ea, eb]
            have xa := tl_at hi
            have ya := tl_at hjt
            rw [ea] at xa
            rw [eb] at ya
            refine wss_one (ws_ifY (k := decide (dist N i (i + 1 + j) < adf x y)) (YT.is (yt_cmp od_gt (YE.is (ye_callB cd_abs T.abs PyProof.Rows.boot_abs (ya_cons (ye_bin od_sub (ye_ixT (yv 1 dT) (yv 2 (Dp.int _)) (atN rfl xa)) (ye_ixT (yv 1 dT) (yv 3 (Dp.int _)) (atN rfl ya))) ya_nil)) (congrArg PyData.int (adf_int x y))) (ye_mat (yv 0 dM) (yv 2 (Dp.int _)) (yv 3 (Dp.int _)) (by omega) (by omega))) ?_) (nw7.i.trans s8) (fun hk3 H9 s9 => ?_) (fun hk3 H9 s9 => wss_nil ⟨F6, rfl, n6.trans (Nw.hop n6.i ((n7.h.trans s8).trans s9)), fun j' h3 h4 => ?_, _, rfl⟩))
            · exact decide_eq_decide.mpr (by omega)
            · have hf : IsFirst N t (i, i + 1 + j) := ⟨by show i < i + 1 + j; omega, hjt, by rw [hcl]; exact hk3, fun i' j' h3 h4 h5 => by
                rcases h5 with z | ⟨z, z2⟩
                · exact no i' j' z h3 h4
                · subst z
                  exact no2 j' h3 z2⟩
              refine wss_one (ws_ret (we_end (fun v F' H' n dv => q v F' H' ((nw7.trans (Nw.hop nw7.i (s8.trans s9))).trans n) dv) ((nw7.i.trans s8).trans s9) (ye_tup (ya_cons (yv 2 (Dp.int _)) (ya_cons (yv 3 (Dp.int _)) ya_nil))) ?_))
              rw [clashO_some hf]
              rfl
            · by_cases e : j' = i + 1 + j
              · subst e
                rw [hcl]
                exact hk3
              · exact no2 j' h3 (by omega)
      · by_cases e : j' = i + 1 + j
        · subst e
          unfold cl
          cases ea : t.getD i none with
          | none => rfl
          | some x =>
            cases eb : t.getD (i + 1 + j) none with
            | none => rfl
            | some y =>
              rw [ea, eb] at hk
              cases hk
        · exact no2 j' h3 (by omega)
    · rintro F6 σ6 H6 ⟨rfl, n6, no2, b, rfl⟩
      rw [rngD_len] at no2
      refine ⟨F3, rfl, ⟨n6.h, (n2.f), (n4'.f.trans n5.f).trans n6.i, fun b' z => n3.n b' z⟩, fun i' j' h3 h4 h5 => ?_, _, _, rfl⟩
      by_cases e : i' = i
      · subst e
        exact no2 j' h4 (by omega)
      · exact no i' j' (by omega) h4 h5
  · rintro F3 σ3 H3 ⟨rfl, n3, no, a, b, rfl⟩
    rw [rngD_len] at no
    refine wss_one (ws_ret (we_end (fun v F' H' n dv => q v F' H' (n3.trans n) dv) n3.i ye_non ?_))
    rw [clashO_none fun i j hij hj => no i j (by omega) hij hj]
    rfl
def gClash (ds : List PyData) (d : PyData) : Prop := ∃ (N : Net) (t : Told), ds = [netD N, tlD t] ∧ N.Ok ∧ TOk N t ∧ d = pairD (clashO N t)
theorem scClash : FnScope nBoth ["net", "told"] (defScope (topS 29)) := ⟨rfl, rfl, rfl, by decide +kernel, rfl, by decide +kernel, by decide +kernel⟩
theorem ok_clash (T : Top K mg) : Dn P w K mg base "clash" 5 L2.CX0 ["net", "told"] (PuD K 2 gClash) := by
  have D1 := ok_both (P := P) (w := w) (base := base) T
  have D2 := ok_clashOf (P := P) (w := w) (base := base) T
  refine dn0 T.aClash scClash pud_len fun f cdv A outer s H vs Q E hr h => ?_
  obtain ⟨F, ds, d, s1, hA, hn, ⟨N, t, rfl, ok, tk, rfl⟩, q⟩ := h
  obtain ⟨v1, v2, rfl, h1, h2⟩ := dpA2 hA
  exact wss_one (ws_ret (we_end q s1 (ye_call D2 (hr.mono (by decide)) pass0 (ya_cons (ye_call D1 hr pass0 (ya_cons (yv 0 h1) (ya_cons (yv 1 h2) ya_nil)) ⟨_, _, rfl, ok, tk, rfl⟩) (ya_cons (yv 1 h2) ya_nil)) ⟨_, _, rfl, ok, tk, rfl⟩) rfl))
end
end K10
set_option Elab.async false
set_option linter.all false
set_option maxRecDepth 100000
set_option maxHeartbeats 4000000
/-! spans, lowest, highest, sure. -/
namespace K10
open PySem PySem.Spec PyProof.Rows L2

theorem Nw.mut {F H F' H' : Hp} {l : Addr} {o : HO} (n : Nw F H F' H') (hl : H l = none) (fl : F' l = none) : Nw F H F' (upd H' l o) := ⟨same_mut n.h hl, n.f, same_mut n.i fl, n.n⟩
theorem enD_mem {ds : List PyData} {d : PyData} (h : d ∈ enD ds) : ∃ (i : Nat) (x : PyData), ds[i]? = some x ∧ d = .tuple [.int (i : Int), x] := by
  obtain ⟨i, hi, e⟩ := List.mem_map.mp h
  have hi := List.mem_range.mp hi
  refine ⟨i, ds[i], List.getElem?_eq_getElem hi, ?_⟩
  rw [← e, List.getD_eq_getElem?_getD, List.getElem?_eq_getElem hi]
  rfl
section
variable {X : Cx} {σ : L2.St} {F H : Hp} {a b : Expr} {pos : Pos} {ds es : List PyData}
theorem yl_cat (ha : YL X a σ F ds) (hb : YL X b σ F es) (hl : ds.length + es.length ≤ 100000) : YL X (.BinOp a .Add b pos) σ F (ds ++ es) := fun H s Q q =>
  go_e (pe_op op_cat pe_we pe_we) (ha H s _ fun p xs F2 H2 n2 hp fp ep dA => hb.mono n2.f H2 n2.i _ fun p2 ys F3 H3 n3 hp2 fp2 ep2 dA2 =>
    ⟨p, p2, xs, ys, rfl, rfl, n3.h p _ ep, ep2, by rw [dpA_len dA, dpA_len dA2]; exact sz4 hl, fun r hr => q r _ F3 _ ((n2.trans n3).trans (Nw.hop n3.i (same_new hr))) ((n2.trans n3).h.free hr) (n3.i.free hr) upd_same (dpA_app (DpAx dA n3.f) dA2)⟩)
theorem ye_catT (ha : YE X a σ F (.tuple ds)) (hb : YE X b σ F (.tuple es)) (hl : ds.length + es.length ≤ 100000) : YE X (.BinOp a .Add b pos) σ F (.tuple (ds ++ es)) := fun H s Q q =>
  go_e (pe_op op_catA pe_we pe_we) (ha H s _ fun x F2 H2 n2 dx => hb.mono n2.f H2 n2.i _ fun y F3 H3 n3 dy => by
    obtain ⟨p, xs, rfl, hS, hA⟩ := dp_tup (Dpx dx n3.f)
    obtain ⟨p2, ys, rfl, hS2, hA2⟩ := dp_tup dy
    have n := n2.trans n3
    refine ⟨p, p2, xs, ys, rfl, rfl, sqT_at (n3.i p) hS, sqT_at (n3.i p2) hS2, by rw [dpA_len hA, dpA_len hA2]; exact sz4 hl, fun e => ?_, fun _ e => ?_, fun _ _ r hr => ?_⟩
    · subst e
      cases hA
      exact q _ F3 H3 n (.tup hS2 hA2)
    · subst e
      cases hA2
      rw [List.append_nil] at q
      exact q _ F3 H3 n (.tup hS hA)
    · have s3 := same_new (o := .tup (xs ++ ys)) (n3.i.free hr)
      exact q _ _ _ (n.trans (Nw.put n3.i hr)) (.tup (sqT_of upd_same) (dpA_app (DpAx hA s3) (DpAx hA2 s3))))
end
def knD (N : Net) (p : Nat) (x : Nat × Nat) : PyData := .tuple [.int x.2, .int (dist N x.1 p : Nat)]
def fKn : PyData → Bool
  | .tuple [_, h] => !isNoneD h
  | _ => false
def gKn (N : Net) (p : Nat) : PyData → PyData
  | .tuple [.int i, h] => .tuple [h, .int (dist N i.toNat p : Nat)]
  | _ => .none
theorem known_eq (N : Net) (t : Told) (p : Nat) : ((enD (t.map optD)).filter fKn).map (gKn N p) = (toldL t).map (knD N p) := by
  unfold enD toldL
  rw [List.length_map]
  have key : ∀ l : List Nat, (∀ i ∈ l, i < t.length) → (((l.map fun (i : Nat) => PyData.tuple [.int (i : Int), (t.map optD).getD i .none]).filter fKn).map (gKn N p)) = (l.filterMap fun i => match t.getD i none with | some h => some (i, h) | none => none).map (knD N p) := by
    intro l
    induction l with
    | nil => intro _; rfl
    | cons i l ih =>
      intro hl
      have hi := hl i List.mem_cons_self
      have ih := ih fun j hj => hl j (List.mem_cons_of_mem _ hj)
      have e : (t.map optD).getD i .none = optD (t.getD i none) := by
        rw [List.getD_eq_getElem?_getD, tl_at hi]
        rfl
      rw [List.map_cons, List.filter_cons, List.filterMap_cons, e]
      cases ht : t.getD i none with
      | none =>
        rw [if_neg (by show ¬ (false = true); decide)]
        exact ih
      | some h =>
        rw [if_pos (by rfl), List.map_cons, List.map_cons, ih]
        rfl
  exact key _ fun i hi => List.mem_range.mp hi
def gLo : PyData → PyData
  | .tuple [.int a, .int b] => .int (a - b)
  | _ => .none
def gHi : PyData → PyData
  | .tuple [.int a, .int b] => .int (a + b)
  | _ => .none
theorem lo_eq (N : Net) (t : Told) (p : Nat) : [PyData.int 0] ++ ((toldL t).map (knD N p)).map gLo = (0 :: (toldL t).map fun x => (x.2 : Int) - (dist N x.1 p : Nat)).map PyData.int := by
  rw [List.map_cons, List.map_map, List.map_map]
  rfl
theorem hi_eq (N : Net) (t : Told) (m p : Nat) : [PyData.int m] ++ ((toldL t).map (knD N p)).map gHi = ((m : Int) :: (toldL t).map fun x => (x.2 : Int) + (dist N x.1 p : Nat)).map PyData.int := by
  rw [List.map_cons, List.map_map, List.map_map]
  rfl
theorem toldL_len (t : Told) : (toldL t).length ≤ t.length := by
  unfold toldL
  have := List.length_filterMap_le (fun i => match t.getD i none with | some h => some (i, h) | none => none) (List.range t.length)
  rw [List.length_range] at this
  exact this
def spD (N : Net) (t : Told) (m p : Nat) : PyData := .tuple [.int (lowI N t p), .int (higI N t m p)]
section
variable {P : Program} {w : World} {K : PySem.W.Frag} {mg : Str → Option Value} {base : Heap}
def gSpans (ds : List PyData) (d : PyData) : Prop := ∃ (N : Net) (t : Told) (m : Nat), ds = [matD N.n (dist N), tlD t, .int m] ∧ N.Ok ∧ TOk N t ∧ d = .list ((List.range t.length).map (spD N t m))
abbrev nSpans : List Str := ["table", "told", "most", "found", "place", "one", "height", "known", "far", "least"]
theorem scSpans : FnScope nSpans ["table", "told", "most"] (defScope (topS 30)) := ⟨rfl, rfl, rfl, by decide +kernel, rfl, by decide +kernel, by decide +kernel⟩
theorem ok_spans (T : Top K mg) : Dn P w K mg base "spans" 1 L2.CX0 ["table", "told", "most"] (PuD K 3 gSpans) := by
  refine dn0 T.aSpans scSpans pud_len fun f cdv A outer s H vs Q E hr h => ?_
  obtain ⟨F, ds, d, s1, hA, hn, ⟨N, t, m, rfl, ok, tk, rfl⟩, q⟩ := h
  obtain ⟨v1, v2, v3, rfl, h1, h2, h3⟩ := dpA3 hA
  have n4 := ok.n4
  have tl := tk.len
  refine wss_cons (ws_set 3 scSpans.nd (YL.w (yl_lst (ds := []) ya_nil) s1 fun l xs F2 H2 n2 hl fl el dA => ?_))
  cases dA
  refine wss_cons (ws_for PassesOwn.never rfl (src_rng1 (n := t.length) T.range (ya_cons (YE.is (ye_callB cd_lenT T.len PySem.boot_len (ya_cons (yv 1 (Dpx h2 n2.f)) ya_nil)) (by rw [List.length_map])) ya_nil) (by omega)) n2.i fun F3 H3 n3 => ⟨fun p F4 σ4 H4 => Nw F H F4 H4 ∧ Same F3 F4 ∧ F4 l = none ∧ (∃ xs, H4 l = some (.lst xs) ∧ DpAll K F4 xs ((List.range p).map (spD N t m))) ∧ ∃ a b c e g k, σ4 = [some v1, some v2, some v3, some (.ref l), a, b, c, e, g, k],
    ⟨n2.trans n3, Same.refl _, n3.out fl (by rw [el]; exact fun z => nomatch z), ⟨[], n3.h l _ el, .nil⟩, none, none, none, none, none, none, rfl⟩, ?_, ?_, ?_⟩)
  · rintro i F4 σ4 H4 ⟨n, s, _⟩
    exact ⟨s, n.i⟩
  · rintro p d F4 σ4 H4 F5 H5 u hd ⟨n4', sf4, fl4, ⟨xs, el4, dA4⟩, a, b, c, e, g, k, rfl⟩ n5 du
    have hp : p < t.length := by
      have := (List.getElem?_eq_some_iff.mp hd).1
      rw [rngD_len] at this
      exact this
    rw [rngD_at hp, Nat.zero_add] at hd
    cases hd
    cases dp_int du
    have nw5 := n4'.trans n5
    have fl5 : F5 l = none := n5.out fl4 (by rw [el4]; exact fun z => nomatch z)
    have g1 := Dpx h1 nw5.f
    have g2 := Dpx h2 nw5.f
    refine wg_name 4 scSpans.nd ?_
    refine wss_cons (ws_setLcT (own := [("one", 5), ("height", 6)]) 7 rfl scSpans.nd nw5.i (src_enT T.enum (ya_cons (yv 1 g2) ya_nil)) (blkOk_by (N := nSpans) (sc := defScope (topS 30)) (by decide +kernel)) (by rw [enD_len, List.length_map]; omega) fKn (gKn N p)
      (fun d hd => ?_) (fun kp ks F6 H6 n6 hk fk ek dk => ?_) (sw_true rfl rfl rfl (by decide +kernel)))
    · obtain ⟨i, x, hx, rfl⟩ := enD_mem hd
      have hi : i < t.length := by
        have := (List.getElem?_eq_some_iff.mp hx).1
        rw [List.length_map] at this
        exact this
      exact tn2 5 6 rfl (fun _ _ => rfl) (fun F1 u w s du dw s0 H0 C cl fp => ⟨yt_cmp od_notN (yv 6 dw) ye_non, fun hf => ye_tup (ya_cons (yv 6 dw) (ya_cons (ye_mat (yv 0 (Dpx g1 s)) (yv 5 du) (yv 4 (Dp.int _)) (by omega) (by omega)) ya_nil))⟩)
        (fun s0 H0 C cl fp => pg_tup rfl (pgs_cons (pg_name (i := 5) scSpans.nd rfl (Or.inl rfl)) (pgs_cons (pg_name (i := 6) scSpans.nd rfl (Or.inl rfl)) pgs_nil rfl) rfl) rfl rfl)
    · rw [known_eq] at dk
      have fl6 : F6 l = none := n6.out fl5 (by rw [n5.h l _ el4]; exact fun z => nomatch z)
      have nw6 := nw5.trans n6
      have nK := n6.learn hk ek fk
      have lk : l ≠ kp := fun z => by
        rw [← z, n5.h l _ el4] at hk
        cases hk
      have fl6' : (upd F6 kp (.lst ks)) l = none := by rw [upd_ne lk]; exact fl6
      have dK : Dp K (upd F6 kp (.lst ks)) (.ref kp) (.list ((toldL t).map (knD N p))) := .lst (sqL_of upd_same) (DpAx dk (same_new fk))
      generalize upd F6 kp (.lst ks) = F7 at nK fl6' dK
      have tll := toldL_len t
      refine wss_cons (ws_set 9 scSpans.nd (YE.w (d := .int (lowI N t p)) (ye_callB (cd_maxL rfl (by simp)) T.max PyProof.Rows.boot_max (ya_cons (YL.ye (YL.is (yl_cat (yl_lst (ds := [.int 0]) (ya_cons ye_int ya_nil)) (yl_comp (own := [("height", 6), ("far", 8)]) rfl scSpans.nd (src_list (yv 7 dK)) (blkOk_by (N := nSpans) (sc := defScope (topS 30)) (by decide +kernel)) (by rw [List.length_map]; omega) gLo fun d hd => ?_) (by rw [List.length_map, List.length_map, List.length_singleton]; omega)) (lo_eq N t p))) ya_nil)) nK.i fun u F8 H8 n8 du8 => ?_))
      · obtain ⟨x, hx, rfl⟩ := List.mem_map.mp hd
        exact tn2 6 8 rfl (fun _ _ => rfl) (fun F1 u w s du dw s0 H0 C cl fp => ye_bin od_sub (yv 6 du) (yv 8 dw))
          (fun s0 H0 C cl fp => pg_tup rfl (pgs_cons (pg_name (i := 6) scSpans.nd rfl (Or.inl rfl)) (pgs_cons (pg_name (i := 8) scSpans.nd rfl (Or.inl rfl)) pgs_nil rfl) rfl) rfl rfl)
      have el8 : H8 l = some (.lst xs) := n8.h l _ (nK.h l _ (n5.h l _ el4))
      have fl8 : F8 l = none := n8.out fl6' (by rw [nK.h l _ (n5.h l _ el4)]; exact fun z => nomatch z)
      have nw8 : Nw F H F8 H8 := (nw5.trans nK).trans n8
      have dK8 := Dpx dK n8.f
      refine wss_one (ws_expr (we_append nw8.i fl8 el8 (fun Q z => we_var 3 z) (YE.ev (ye_tup (ya_cons (yv 9 du8) (ya_cons (ye_callB (cd_minL rfl (by simp)) T.min PyProof.Rows.boot_min (ya_cons (YL.ye (YL.is (yl_cat (yl_lst (ds := [.int m]) (ya_cons (yv 2 (Dpx h3 nw8.f)) ya_nil)) (yl_comp (own := [("height", 6), ("far", 8)]) rfl scSpans.nd (src_list (yv 7 dK8)) (blkOk_by (N := nSpans) (sc := defScope (topS 30)) (by decide +kernel)) (by rw [List.length_map]; omega) gHi fun d hd => ?_) (by rw [List.length_map, List.length_map, List.length_singleton]; omega)) (hi_eq N t m p))) ya_nil)) ya_nil))) nw8.i)
        (by rw [dpA_len dA4, List.length_map, List.length_range]; omega) fun u F9 H9 n9 fl9 el9 du9 => ⟨F9, (nw8.trans n9).mut hl fl9, sf4.trans (((n5.f.trans nK.f).trans n8.f).trans n9.f), fl9, ⟨_, upd_same, ?_⟩, _, _, _, _, _, _, rfl⟩))
      · obtain ⟨x, hx, rfl⟩ := List.mem_map.mp hd
        exact tn2 6 8 rfl (fun _ _ => rfl) (fun F1 u w s du dw s0 H0 C cl fp => ye_bin od_add (yv 6 du) (yv 8 dw))
          (fun s0 H0 C cl fp => pg_tup rfl (pgs_cons (pg_name (i := 6) scSpans.nd rfl (Or.inl rfl)) (pgs_cons (pg_name (i := 8) scSpans.nd rfl (Or.inl rfl)) pgs_nil rfl) rfl) rfl rfl)
      · rw [List.range_succ, List.map_append]
        exact dpA_app (DpAx dA4 (((n5.f.trans nK.f).trans n8.f).trans n9.f)) (dpA_one du9)
  · rintro F4 σ4 H4 ⟨n4', sf4, fl4, ⟨xs, el4, dA4⟩, a, b, c, e, g, k, rfl⟩
    rw [rngD_len] at dA4
    exact wss_one (ws_ret (we_var 3 (q _ _ H4 (n4'.learn hl el4 fl4) (.lst (sqL_of upd_same) (DpAx dA4 (same_new fl4))))))
end
end K10
set_option Elab.async false
set_option linter.all false
set_option maxRecDepth 100000
set_option maxHeartbeats 4000000
/-! lowest, highest, sure. -/
namespace K10
open PySem PySem.Spec PyProof.Rows L2

/-- the class NoRow, as the top leaves it -/
structure NoR (K : PySem.W.Frag) (mg : Str → Option Value) (C : Addr) : Prop where
  g : mg "NoRow" = some (.ref C)
  x : PySem.W.excIn K C [.type "ValueError", .type "Exception", .type "BaseException", .type "object"] "ValueError.__new__" = true
  k : PySem.W.keepIn K (.ref C) = true
  b : PySem.W.subIn K (.ref C) (.type "BaseException") = some true
  t : PySem.W.typeIn K (.ref C) = some (.type "type")
  e : PySem.W.exmOne K (.ref C) (.ref C) = some true
/-- a promise that answers or raises NoRow -/
def PuX (K : PySem.W.Frag) (n : Nat) (C : Addr) (G : List PyData → Option PyData → Prop) : Sp := fun vs H Q E => ∃ F ds r, Same F H ∧ DpAll K F vs ds ∧ ds.length = n ∧ G ds r ∧ (∀ d, r = some d → ∀ v F' H', Nw F H F' H' → Dp K F' v d → Q v H') ∧ (r = none → ∀ H', Same H H' → E (.ref C) none H')
theorem pux_len {K : PySem.W.Frag} {n : Nat} {C : Addr} {G : List PyData → Option PyData → Prop} {ps : List Str} (h : n = ps.length := by rfl) : ∀ vs H Q E, PuX K n C G vs H Q E → vs.length = ps.length := fun vs H Q E q => by
  obtain ⟨F, ds, d, _, hA, hn, _⟩ := q
  rw [dpA_len hA, hn, h]
section
variable {X : Cx} {σ : L2.St} {F H : Hp} {e : Expr} {es : List Expr} {pos : Pos} {ds : List PyData}
theorem we_callX {x : Str} {k n : Nat} {C : Addr} {r : Option PyData} {ps : List Str} {G : List PyData → Option PyData → Prop} {p : Pos} {Q : VK} {E : XK} {CX : CXT} (D : Dn X.prog X.w X.K X.mg X.base x k CX ps (PuX X.K n C G)) (hr : Room k X.A) (hx : Passes CX X E) (ha : YA X (e :: es) σ F ds) (hG : G ds r) (s : Same F H)
    (q : ∀ d, r = some d → ∀ v F' H', Nw F H F' H' → Dp X.K F' v d → Q v H') (he : r = none → ∀ H', Same H H' → E (.ref C) none H') (hn : ds.length = n := by rfl) (hg : Gl X x := by rfl) (hdb : (x == ("__debug__" : Str)) = false := by decide)
    (hs : starEach (e :: es) X.env = (false, eval e X.env) :: starEach es X.env := by rfl) (hpl : (backTo pos (starEach es X.env)).any (·.1) = false := by rfl) : WE X (.Call (.Name x p) (e :: es) [] pos) σ H Q :=
  we_call D hr hx (ha H s _ fun vs F2 H2 n2 dvs => ⟨F2, ds, r, n2.i, dvs, hn, hG, fun d e v F3 H3 n3 dv => q d e v F3 H3 (n2.trans n3) dv, fun e H3 s3 => he e H3 (n2.h.trans s3)⟩) hg hdb hs hpl
end
theorem isn_pair (x : Option (Nat × Nat)) : (!isNoneD (pairD x)) = x.isSome := by cases x <;> rfl
noncomputable def lowR (N : Net) (t : Told) : Option PyData := if (clashO N t).isSome then none else some (.tuple ((List.range t.length).map fun p => .int (lowI N t p)))
noncomputable def noR (N : Net) (t : Told) (m : Nat) : Bool := (clashO N t).isSome || !tle t m
noncomputable def higR (N : Net) (t : Told) (m : Nat) : Option PyData := if noR N t m then none else some (.tuple ((List.range t.length).map fun p => .int (higI N t m p)))
noncomputable def sureR (N : Net) (t : Told) (m : Nat) : Option PyData := if noR N t m then none else some (.tuple ((List.range t.length).map fun p => if lowI N t p = higI N t m p then .int (lowI N t p) else .none))
def gSm : PyData → PyData
  | .tuple [.int a, .int b] => if a = b then .int a else .none
  | _ => .none
def g0 : PyData → PyData
  | .tuple (a :: _) => a
  | _ => .none
def g1 : PyData → PyData
  | .tuple (_ :: b :: _) => b
  | _ => .none
def gOver (m : Nat) : PyData → PyData
  | .int h => .bool (decide ((m : Int) < h))
  | _ => .bool false
theorem over_eq (t : Told) (m : Nat) : ((t.map optD).map (gOver m)) = (t.map fun o => match o with | some h => decide ((m : Int) < (h : Int)) | none => false).map PyData.bool := by
  rw [List.map_map, List.map_map]
  refine List.map_congr_left fun o _ => ?_
  cases o <;> rfl
theorem over_any (t : Told) (m : Nat) : (t.map fun o => match o with | some h => decide ((m : Int) < (h : Int)) | none => false).any id = !tle t m := by
  unfold tle
  induction t with
  | nil => rfl
  | cons o t ih =>
    rw [List.map_cons, List.any_cons, List.all_cons, ih, Bool.not_and]
    congr 1
    cases o with
    | none => rfl
    | some h =>
      show decide ((m : Int) < (h : Int)) = !decide (h ≤ m)
      by_cases z : h ≤ m
      · rw [decide_eq_true z, decide_eq_false (by omega)]
        rfl
      · rw [decide_eq_false z, decide_eq_true (by omega)]
        rfl
section
variable {P : Program} {w : World} {K : PySem.W.Frag} {mg : Str → Option Value} {base : Heap} {C : Addr}
theorem ws_norow {x : Str} {N : List Str} {sc : Scope} {f : Addr} {cdv : Value} {A : Around} {outer : List Env} {s : Shared} {H0 H : Hp} {E : XK} {D : Ends} {σ : L2.St} {p p2 p3 : Pos} (R : NoR K mg C) (hg : Gl (cxOf (L2.CX P w) P w K mg base N x sc f cdv A outer s H0 E) "NoRow") (h : E (.ref C) none H) :
    WS (cxOf (L2.CX P w) P w K mg base N x sc f cdv A outer s H0 E) (.Raise (some (.Call (.Name "NoRow" p) [] [] p2)) none p3) D σ H :=
  go_s (ps_raise rfl (takes_of rfl rfl rfl rfl) (pmk_own0 PySem.F.excBase_ValueError R.x R.g R.k (raises_own R.b R.t) hg)) h
def gLowest (ds : List PyData) (r : Option PyData) : Prop := ∃ (N : Net) (t : Told), ds = [netD N, tlD t] ∧ N.Ok ∧ TOk N t ∧ r = lowR N t
abbrev nLowest : List Str := ["net", "told", "table", "pair"]
theorem scLowest : FnScope nLowest ["net", "told"] (defScope (topS 31)) := ⟨rfl, rfl, rfl, by decide +kernel, rfl, by decide +kernel, by decide +kernel⟩
theorem ok_lowest (T : Top K mg) (R : NoR K mg C) : Dn P w K mg base "lowest" 5 (L2.CX P w) ["net", "told"] (PuX K 2 C gLowest) := by
  have D1 := ok_both (P := P) (w := w) (base := base) T
  have D2 := ok_clashOf (P := P) (w := w) (base := base) T
  have D3 := ok_spans (P := P) (w := w) (base := base) T
  obtain ⟨tH, mH⟩ := T.mHeight
  refine dnX T.aLowest scLowest pux_len fun f cdv A outer s H vs Q E hr h => ?_
  obtain ⟨F, ds, r, s1, hA, hn, ⟨N, t, rfl, ok, tk, rfl⟩, q, qe⟩ := h
  obtain ⟨v1, v2, rfl, h1, h2⟩ := dpA2 hA
  have n4 := ok.n4
  have tl := tk.len
  refine wss_cons (ws_set 2 scLowest.nd (YE.w (ye_call D1 hr pass0 (ya_cons (yv 0 h1) (ya_cons (yv 1 h2) ya_nil)) ⟨_, _, rfl, ok, tk, rfl⟩) s1 fun u F2 H2 n2 du => ?_))
  have g2 := Dpx h2 n2.f
  refine wss_cons (ws_ifY (YT.is (yt_cmp od_notN (ye_call D2 (hr.mono (by decide)) pass0 (ya_cons (yv 2 du) (ya_cons (yv 1 g2) ya_nil)) ⟨_, _, rfl, ok, tk, rfl⟩) ye_non) (isn_pair _)) n2.i (fun hk H3 s3 => ?_) (fun hk H3 s3 => wss_nil ?_))
  · refine wss_one (ws_norow R rfl (qe ?_ _ (n2.h.trans s3)))
    unfold lowR
    rw [if_pos hk]
  · have e : lowR N t = some (.tuple ((List.range t.length).map fun p => .int (lowI N t p))) := by
      unfold lowR
      rw [if_neg (by rw [hk]; decide)]
    have n3 := n2.trans (Nw.hop n2.i s3)
    refine wss_one (ws_ret (we_end (fun v F' H' n dv => q _ e v F' H' (n3.trans n) dv) n3.i (ye_callTy cd_tuple T.tuple PyProof.Rows.boot_tuple (ya_cons (YL.ye (yl_comp (own := [("pair", 3)]) rfl scLowest.nd (src_list (ye_call D3 (hr.mono (by decide)) pass0 (ya_cons (yv 2 du) (ya_cons (yv 1 g2) (ya_cons (ye_globI mH ⟨_, rfl⟩) ya_nil))) ⟨N, t, 99, rfl, ok, tk, rfl⟩)) (blkOk_by (N := nLowest) (sc := defScope (topS 31)) (by decide +kernel)) (by rw [List.length_map, List.length_range]; omega) g0 fun d hd => ?_)) ya_nil)) ?_))
    · obtain ⟨x, hx, rfl⟩ := List.mem_map.mp hd
      exact tn1 3 scLowest.nd (fun _ => rfl) (fun F1 u s du s0 H0 C cl fp => ye_ixT (yv 3 du) ye_int (by rfl)) (fun _ _ _ _ _ => pg_name (i := 3) scLowest.nd rfl (Or.inl rfl))
    · rw [List.map_map]
      rfl
def gHighest (ds : List PyData) (r : Option PyData) : Prop := ∃ (N : Net) (t : Told) (m : Nat), ds = [netD N, tlD t, .int m] ∧ N.Ok ∧ TOk N t ∧ m ≤ 99 ∧ r = higR N t m
abbrev nHighest : List Str := ["net", "told", "most", "table", "height", "pair"]
theorem scHighest : FnScope nHighest ["net", "told", "most"] (defScope (topS 32)) := ⟨rfl, rfl, rfl, by decide +kernel, rfl, by decide +kernel, by decide +kernel⟩
theorem ok_highest (T : Top K mg) (R : NoR K mg C) : Dn P w K mg base "highest" 5 (L2.CX P w) ["net", "told", "most"] (PuX K 3 C gHighest) := by
  have D1 := ok_both (P := P) (w := w) (base := base) T
  have D2 := ok_clashOf (P := P) (w := w) (base := base) T
  have D3 := ok_spans (P := P) (w := w) (base := base) T
  have D4 := ok_needN (P := P) (w := w) (base := base) T
  obtain ⟨tH, mH⟩ := T.mHeight
  refine dnX T.aHighest scHighest pux_len fun f cdv A outer s H vs Q E hr h => ?_
  obtain ⟨F, ds, r, s1, hA, hn, ⟨N, t, m, rfl, ok, tk, hm, rfl⟩, q, qe⟩ := h
  obtain ⟨v1, v2, v3, rfl, h1, h2, h3⟩ := dpA3 hA
  have n4 := ok.n4
  have tl := tk.len
  refine wss_cons (ws_set 3 scHighest.nd (YE.w (ye_call D1 hr pass0 (ya_cons (yv 0 h1) (ya_cons (yv 1 h2) ya_nil)) ⟨_, _, rfl, ok, tk, rfl⟩) s1 fun u F2 H2 n2 du => ?_))
  refine wss_cons (ws_expr (YE.w (d := .none) (ye_call D4 (hr.mono (by decide)) pass0 (ya_cons (yv 2 (Dpx h3 n2.f)) (ya_cons ye_int (ya_cons (ye_globI mH ⟨_, rfl⟩) ya_nil))) ⟨_, _, _, rfl, by omega, rfl⟩) n2.i fun u' F3 H3 n3 _ => ?_))
  have nw3 := n2.trans n3
  have g2 := Dpx h2 nw3.f
  have g3 := Dpx h3 nw3.f
  have du3 := Dpx du n3.f
  refine wss_cons (ws_ifY (k := noR N t m) (YT.is (yw_pt (yw_or (yt_cmp od_notN (ye_call D2 (hr.mono (by decide)) pass0 (ya_cons (yv 3 du3) (ya_cons (yv 1 g2) ya_nil)) ⟨_, _, rfl, ok, tk, rfl⟩) ye_non) fun _ => yw_or1 (yt_val (ye_callB (cd_any rfl) T.any (by decide +kernel) (ya_cons (YL.ye (YL.is (yl_comp (own := [("height", 4)]) rfl scHighest.nd (src_tup (yv 1 g2)) (blkOk_by (N := nHighest) (sc := defScope (topS 32)) (by decide +kernel)) (by rw [List.length_map]; omega) (gOver m) fun d hd => ?_) (over_eq t m))) ya_nil))))) ?_) nw3.i (fun hk H4 s4 => ?_) (fun hk H4 s4 => wss_nil ?_))
  · obtain ⟨o, ho, rfl⟩ := List.mem_map.mp hd
    refine tn1 4 scHighest.nd (fun _ => rfl) (fun F1 u s du s0 H0 C cl fp => ?_) (fun _ _ _ _ _ => pg_name (i := 4) scHighest.nd rfl (Or.inl rfl))
    cases o with
    | none => exact YE.is (ye_and (k2 := false) (ye_cmp od_notN (yv 4 du) ye_non) fun e => nomatch e) rfl
    | some x => exact YE.is (ye_and (ye_cmp od_notN (yv 4 du) ye_non) fun _ => ye_one (ye_cmp od_gt (yv 4 du) (yv 2 (Dpx g3 s)))) rfl
  · rw [isn_pair, over_any]
    rfl
  · refine wss_one (ws_norow R rfl (qe ?_ _ (nw3.h.trans s4)))
    unfold higR
    rw [if_pos hk]
  · have e : higR N t m = some (.tuple ((List.range t.length).map fun p => .int (higI N t m p))) := by
      unfold higR
      rw [if_neg (by rw [hk]; decide)]
    have n5 := nw3.trans (Nw.hop nw3.i s4)
    refine wss_one (ws_ret (we_end (fun v F' H' n dv => q _ e v F' H' (n5.trans n) dv) n5.i (ye_callTy cd_tuple T.tuple PyProof.Rows.boot_tuple (ya_cons (YL.ye (yl_comp (own := [("pair", 5)]) rfl scHighest.nd (src_list (ye_call D3 (hr.mono (by decide)) pass0 (ya_cons (yv 3 du3) (ya_cons (yv 1 g2) (ya_cons (yv 2 g3) ya_nil))) ⟨N, t, m, rfl, ok, tk, rfl⟩)) (blkOk_by (N := nHighest) (sc := defScope (topS 32)) (by decide +kernel)) (by rw [List.length_map, List.length_range]; omega) g1 fun d hd => ?_)) ya_nil)) ?_))
    · obtain ⟨x, hx, rfl⟩ := List.mem_map.mp hd
      exact tn1 5 scHighest.nd (fun _ => rfl) (fun F1 u s du s0 H0 C cl fp => ye_ixT (yv 5 du) ye_int (by rfl)) (fun _ _ _ _ _ => pg_name (i := 5) scHighest.nd rfl (Or.inl rfl))
    · rw [List.map_map]
      rfl
def gSure (ds : List PyData) (r : Option PyData) : Prop := ∃ (N : Net) (t : Told) (m : Nat), ds = [netD N, tlD t, .int m] ∧ N.Ok ∧ TOk N t ∧ m ≤ 99 ∧ r = sureR N t m
abbrev nSure : List Str := ["net", "told", "most", "greatest", "least", "one", "other"]
theorem scSure : FnScope nSure ["net", "told", "most"] (defScope (topS 33)) := ⟨rfl, rfl, rfl, by decide +kernel, rfl, by decide +kernel, by decide +kernel⟩
theorem ok_sure (T : Top K mg) (R : NoR K mg C) : Dn P w K mg base "sure" 6 (L2.CX P w) ["net", "told", "most"] (PuX K 3 C gSure) := by
  have D1 := ok_highest (P := P) (w := w) (base := base) T R
  have D2 := ok_lowest (P := P) (w := w) (base := base) T R
  refine dnX T.aSure scSure pux_len fun f cdv A outer s H vs Q E hr h => ?_
  obtain ⟨F, ds, r, s1, hA, hn, ⟨N, t, m, rfl, ok, tk, hm, rfl⟩, q, qe⟩ := h
  obtain ⟨v1, v2, v3, rfl, h1, h2, h3⟩ := dpA3 hA
  have n4 := ok.n4
  have tl := tk.len
  have hN : ∀ d, higR N t m = some d → noR N t m = false ∧ d = .tuple ((List.range t.length).map fun p => .int (higI N t m p)) := fun d e => by
    unfold higR at e
    cases z : noR N t m with
    | true =>
      rw [z] at e
      cases e
    | false =>
      rw [z] at e
      cases e
      exact ⟨rfl, rfl⟩
  refine wss_cons (ws_set 3 scSure.nd (we_callX (E := E) D1 hr (passes_call (takes_of rfl rfl rfl rfl) fun _ _ _ _ h => h) (ya_cons (yv 0 h1) (ya_cons (yv 1 h2) (ya_cons (yv 2 h3) ya_nil))) ⟨N, t, m, rfl, ok, tk, hm, rfl⟩ s1 (fun d e u F2 H2 n2 du => ?_) (fun e H' s' => qe ?_ H' s')))
  · obtain ⟨z, rfl⟩ := hN d e
    have zc : (clashO N t).isSome = false := by
      unfold noR at z
      exact (Bool.or_eq_false_iff.mp z).1
    have eL : lowR N t = some (.tuple ((List.range t.length).map fun p => .int (lowI N t p))) := by
      unfold lowR
      rw [zc]
      rfl
    have eS : sureR N t m = some (.tuple ((List.range t.length).map fun p => if lowI N t p = higI N t m p then .int (lowI N t p) else .none)) := by
      unfold sureR
      rw [z]
      rfl
    refine wss_cons (ws_set 4 scSure.nd (we_callX (E := E) D2 hr (passes_call (takes_of rfl rfl rfl rfl) fun _ _ _ _ h => h) (ya_cons (yv 0 (Dpx h1 n2.f)) (ya_cons (yv 1 (Dpx h2 n2.f)) ya_nil)) ⟨N, t, rfl, ok, tk, rfl⟩ n2.i (fun d2 e2 u2 F3 H3 n3 du2 => ?_) (fun e H' s' => by rw [eL] at e; cases e)))
    rw [eL] at e2
    cases e2
    have nw3 := n2.trans n3
    refine wss_one (ws_ret (we_end (fun v F' H' n dv => q _ eS v F' H' (nw3.trans n) dv) nw3.i (ye_callTy cd_tuple T.tuple PyProof.Rows.boot_tuple (ya_cons (YL.ye (yl_comp (own := [("one", 5), ("other", 6)]) rfl scSure.nd (src_zipT (by rw [List.length_map, List.length_map]) T.zip (ya_cons (yv 4 du2) (ya_cons (yv 3 (Dpx du n3.f)) ya_nil))) (blkOk_by (N := nSure) (sc := defScope (topS 33)) (by decide +kernel)) (by rw [zpD_len, List.length_map, List.length_range]; omega) gSm fun d hd => ?_)) ya_nil)) ?_))
    · obtain ⟨i, hi, e⟩ := List.mem_map.mp hd
      have hi := List.mem_range.mp hi
      rw [List.length_map, List.length_range] at hi
      have e1 : d = .tuple [.int (lowI N t i), .int (higI N t m i)] := by
        rw [← e, List.getD_eq_getElem?_getD, List.getD_eq_getElem?_getD, List.getElem?_map, List.getElem?_map, List.getElem?_range hi]
        rfl
      subst e1
      refine tn2 5 6 rfl (fun _ _ => rfl) (fun F1 u w s du dw s0 H0 C cl fp => ?_) (fun s0 H0 C cl fp => pg_tup rfl (pgs_cons (pg_name (i := 5) scSure.nd rfl (Or.inl rfl)) (pgs_cons (pg_name (i := 6) scSure.nd rfl (Or.inl rfl)) pgs_nil rfl) rfl) rfl rfl)
      refine ye_if (yt_cmp od_eqI (yv 5 du) (yv 6 dw)) (fun e => ?_) (fun e => ?_)
      · exact YE.is (yv 5 du) (if_pos (of_decide_eq_true e)).symm
      · exact YE.is ye_non (if_neg (of_decide_eq_false e)).symm
    · congr 1
      unfold zpD
      rw [List.map_map, List.length_map, List.length_range]
      refine List.map_congr_left fun i hi => ?_
      have hi := List.mem_range.mp hi
      show gSm (.tuple [_, _]) = _
      rw [List.getD_eq_getElem?_getD, List.getD_eq_getElem?_getD, List.getElem?_map, List.getElem?_map, List.getElem?_range hi]
      rfl
  · unfold higR at e
    unfold sureR
    cases z : noR N t m with
    | true => rfl
    | false =>
      rw [z] at e
      cases e
end
end K10
set_option Elab.async false
set_option linter.all false
set_option maxRecDepth 100000
set_option maxHeartbeats 4000000
/-! grown, all_rows. -/
namespace K10
open PySem PySem.Spec PyProof.Rows L2

def rwD (r : List Nat) : PyData := .tuple (r.map fun (h : Nat) => .int h)
def rsD (rs : List (List Nat)) : PyData := .list (rs.map rwD)
/-- the least, the greatest height that goes on with a row -/
def loI (N : Net) (r : List Nat) : Int := mxI (0 :: (List.range r.length).map fun i => ((r.getD i 0 : Nat) : Int) - (dist N i r.length : Nat))
def hiI (N : Net) (m : Nat) (r : List Nat) : Int := mnI ((m : Int) :: (List.range r.length).map fun i => ((r.getD i 0 : Nat) : Int) + (dist N i r.length : Nat))
theorem loI_nn (N : Net) (r : List Nat) : 0 ≤ loI N r := (mxI_spec _ (by simp)).2 0 List.mem_cons_self
theorem hiI_nn (N : Net) (m : Nat) (r : List Nat) : 0 ≤ hiI N m r := by
  have h := (mnI_spec ((m : Int) :: (List.range r.length).map fun i => ((r.getD i 0 : Nat) : Int) + (dist N i r.length : Nat)) (by simp)).1
  unfold hiI
  rcases List.mem_cons.mp h with e | e
  · rw [e]; omega
  · obtain ⟨i, _, e2⟩ := List.mem_map.mp e
    rw [← e2]; omega
theorem hiI_le (N : Net) (m : Nat) (r : List Nat) : hiI N m r ≤ m := (mnI_spec _ (by simp)).2 _ List.mem_cons_self
theorem loI_le {N : Net} {r : List Nat} {h : Nat} : loI N r ≤ h ↔ ∀ i, i < r.length → r.getD i 0 ≤ h + dist N i r.length := by
  constructor
  · intro z i hi
    have := (mxI_spec (0 :: (List.range r.length).map fun i => ((r.getD i 0 : Nat) : Int) - (dist N i r.length : Nat)) (by simp)).2 _ (List.mem_cons_of_mem _ (List.mem_map.mpr ⟨i, List.mem_range.mpr hi, rfl⟩))
    have : ((r.getD i 0 : Nat) : Int) - (dist N i r.length : Nat) ≤ loI N r := this
    omega
  · intro z
    have h1 := (mxI_spec (0 :: (List.range r.length).map fun i => ((r.getD i 0 : Nat) : Int) - (dist N i r.length : Nat)) (by simp)).1
    unfold loI
    rcases List.mem_cons.mp h1 with e | e
    · rw [e]; omega
    · obtain ⟨i, hi, e2⟩ := List.mem_map.mp e
      rw [← e2]
      have := z i (List.mem_range.mp hi)
      omega
theorem le_hiI {N : Net} {m : Nat} {r : List Nat} {h : Nat} : (h : Int) ≤ hiI N m r ↔ h ≤ m ∧ ∀ i, i < r.length → h ≤ r.getD i 0 + dist N i r.length := by
  constructor
  · intro z
    refine ⟨?_, fun i hi => ?_⟩
    · have := hiI_le N m r
      omega
    · have := (mnI_spec ((m : Int) :: (List.range r.length).map fun i => ((r.getD i 0 : Nat) : Int) + (dist N i r.length : Nat)) (by simp)).2 _ (List.mem_cons_of_mem _ (List.mem_map.mpr ⟨i, List.mem_range.mpr hi, rfl⟩))
      have : hiI N m r ≤ ((r.getD i 0 : Nat) : Int) + (dist N i r.length : Nat) := this
      omega
  · rintro ⟨z, z2⟩
    have h1 := (mnI_spec ((m : Int) :: (List.range r.length).map fun i => ((r.getD i 0 : Nat) : Int) + (dist N i r.length : Nat)) (by simp)).1
    unfold hiI
    rcases List.mem_cons.mp h1 with e | e
    · rw [e]; omega
    · obtain ⟨i, hi, e2⟩ := List.mem_map.mp e
      rw [← e2]
      have := z2 i (List.mem_range.mp hi)
      omega
theorem fits_iff {N : Net} {m : Nat} {r : List Nat} {h : Nat} (hm : h ≤ m) : fits N r h = (decide (loI N r ≤ h) && decide ((h : Int) ≤ hiI N m r)) := by
  rw [Bool.eq_iff_iff, Bool.and_eq_true, decide_eq_true_iff, decide_eq_true_iff, loI_le, le_hiI]
  unfold fits
  rw [List.all_eq_true]
  constructor
  · intro z
    have q : ∀ i, i < r.length → r.getD i 0 ≤ h + dist N i r.length ∧ h ≤ r.getD i 0 + dist N i r.length := fun i hi => adf_le.mp (of_decide_eq_true (z i (List.mem_range.mpr hi)))
    exact ⟨fun i hi => (q i hi).1, hm, fun i hi => (q i hi).2⟩
  · rintro ⟨z1, _, z2⟩ i hi
    have hi := List.mem_range.mp hi
    exact decide_eq_true (adf_le.mpr ⟨z1 i hi, z2 i hi⟩)
theorem filt_one (p : Nat → Bool) (a : Nat) : ∀ n, (List.range n).filter (fun h => p h && decide (a = h)) = if a < n ∧ p a = true then [a] else []
  | 0 => by rw [if_neg (fun z => absurd z.1 (Nat.not_lt_zero _))]; rfl
  | n + 1 => by
    rw [List.range_succ, List.filter_append, filt_one p a n, List.filter_cons, List.filter_nil]
    by_cases e : a = n
    · subst e
      rw [if_neg (fun z => Nat.lt_irrefl _ z.1), decide_eq_true rfl, Bool.and_true, List.nil_append]
      cases hp : p a with
      | true => rw [if_pos rfl, if_pos ⟨Nat.lt_succ_self _, rfl⟩]
      | false => rw [if_neg (by decide), if_neg (fun z => Bool.false_ne_true z.2)]
    · rw [decide_eq_false e, Bool.and_false, if_neg Bool.false_ne_true, List.append_nil]
      by_cases c : a < n ∧ p a = true
      · rw [if_pos c, if_pos ⟨Nat.lt_succ_of_lt c.1, c.2⟩]
      · rw [if_neg c, if_neg (fun z => c ⟨by omega, z.2⟩)]
theorem ext_free {N : Net} {t : Told} {m : Nat} {r : List Nat} (h : t.getD r.length none = none) : ext N t m r = (List.range' (loI N r).toNat ((hiI N m r).toNat + 1 - (loI N r).toNat)).map fun h => r ++ [h] := by
  unfold ext
  congr 1
  have a1 := loI_nn N r
  have a2 := hiI_nn N m r
  have a3 := hiI_le N m r
  rw [← range_filter_iv (loI N r).toNat (hiI N m r).toNat (m + 1) (by omega)]
  refine List.filter_congr fun x hx => ?_
  have hx := List.mem_range.mp hx
  rw [fits_iff (m := m) (by omega)]
  unfold tm
  rw [h, Bool.and_true]
  congr 1
  · exact decide_eq_decide.mpr (by omega)
  · exact decide_eq_decide.mpr (by omega)
theorem ext_told {N : Net} {t : Told} {m a : Nat} {r : List Nat} (h : t.getD r.length none = some a) : ext N t m r = if (loI N r ≤ a ∧ (a : Int) ≤ hiI N m r) then [r ++ [a]] else [] := by
  unfold ext
  have e : ((List.range (m + 1)).filter fun h => fits N r h && tm t r.length h) = (List.range (m + 1)).filter (fun h : Nat => (decide (loI N r ≤ h) && decide ((h : Int) ≤ hiI N m r)) && decide (a = h)) := by
    refine List.filter_congr fun x hx => ?_
    have hx := List.mem_range.mp hx
    rw [fits_iff (m := m) (by omega)]
    unfold tm
    rw [h]
  rw [e, filt_one (fun h : Nat => decide (loI N r ≤ h) && decide ((h : Int) ≤ hiI N m r))]
  have a3 := hiI_le N m r
  by_cases c : loI N r ≤ a ∧ (a : Int) ≤ hiI N m r
  · rw [if_pos c, if_pos ⟨by omega, by rw [decide_eq_true c.1, decide_eq_true c.2]; rfl⟩]
    rfl
  · rw [if_neg c, if_neg (fun z => ?_)]
    · rfl
    · have := (Bool.and_eq_true _ _).mp z.2
      exact c ⟨of_decide_eq_true this.1, of_decide_eq_true this.2⟩
def gRl (N : Net) (p : Nat) : PyData → PyData
  | .tuple [.int i, .int h] => .int (h - (dist N i.toNat p : Nat))
  | _ => .none
def gRh (N : Net) (p : Nat) : PyData → PyData
  | .tuple [.int i, .int h] => .int (h + (dist N i.toNat p : Nat))
  | _ => .none
theorem rl_eq (N : Net) (r : List Nat) (p : Nat) : (enD (r.map fun (h : Nat) => PyData.int h)).map (gRl N p) = ((List.range r.length).map fun i => ((r.getD i 0 : Nat) : Int) - (dist N i p : Nat)).map PyData.int := by
  unfold enD
  rw [List.map_map, List.map_map, List.length_map]
  refine List.map_congr_left fun i hi => ?_
  have hi := List.mem_range.mp hi
  show gRl N p (.tuple [.int (i : Int), (r.map fun (h : Nat) => PyData.int h).getD i .none]) = PyData.int (((r.getD i 0 : Nat) : Int) - (dist N i p : Nat))
  rw [List.getD_eq_getElem?_getD, List.getElem?_map, List.getElem?_eq_getElem hi, List.getD_eq_getElem?_getD, List.getElem?_eq_getElem hi]
  rfl
theorem rh_eq (N : Net) (r : List Nat) (p : Nat) : (enD (r.map fun (h : Nat) => PyData.int h)).map (gRh N p) = ((List.range r.length).map fun i => ((r.getD i 0 : Nat) : Int) + (dist N i p : Nat)).map PyData.int := by
  unfold enD
  rw [List.map_map, List.map_map, List.length_map]
  refine List.map_congr_left fun i hi => ?_
  have hi := List.mem_range.mp hi
  show gRh N p (.tuple [.int (i : Int), (r.map fun (h : Nat) => PyData.int h).getD i .none]) = PyData.int (((r.getD i 0 : Nat) : Int) + (dist N i p : Nat))
  rw [List.getD_eq_getElem?_getD, List.getElem?_map, List.getElem?_eq_getElem hi, List.getD_eq_getElem?_getD, List.getElem?_eq_getElem hi]
  rfl
def gAdd (r : List Nat) : PyData → PyData
  | .int h => .tuple (r.map (fun (h : Nat) => PyData.int h) ++ [.int h])
  | _ => .none
theorem ext_freeD {N : Net} {t : Told} {m : Nat} {r : List Nat} (h : t.getD r.length none = none) : (rngD (loI N r).toNat ((hiI N m r).toNat + 1 - (loI N r).toNat)).map (gAdd r) = (ext N t m r).map rwD := by
  rw [ext_free h]
  unfold rngD
  rw [List.map_map, List.map_map, List.range'_eq_map_range, List.map_map]
  refine List.map_congr_left fun i _ => ?_
  show PyData.tuple (r.map (fun (h : Nat) => PyData.int h) ++ [.int (((loI N r).toNat + i : Nat) : Int)]) = PyData.tuple ((r ++ [(loI N r).toNat + i]).map fun (h : Nat) => PyData.int h)
  rw [List.map_append]
  rfl
section
variable {X : Cx} {σ : L2.St} {F : Hp} {a b tg : Expr}
theorem src_rngI {p pos : Pos} {lo hi : Int} (hm : X.mg "range" = none) (h : YA X [a, b] σ F [.int lo, .int (hi + 1)]) (h0 : 0 ≤ lo) (h1 : 0 ≤ hi) (h2 : lo ≤ 50000) (h3 : hi ≤ 50000) (hg : Gl X "range" := by rfl) (hs : starEach [a, b] X.env = [(false, eval a X.env), (false, eval b X.env)] := by rfl) (hpl : starEach [b] X.env = [(false, eval b X.env)] := by rfl) : Src X tg (.Call (.Name "range" p) [a, b] [] pos) σ F (rngD lo.toNat (hi.toNat + 1 - lo.toNat)) := by
  by_cases c : lo ≤ hi + 1
  · obtain ⟨lo', rfl⟩ : ∃ n : Nat, lo = n := ⟨lo.toNat, by omega⟩
    obtain ⟨hi', rfl⟩ : ∃ n : Nat, hi = n := ⟨hi.toNat, by omega⟩
    rw [Int.toNat_natCast, Int.toNat_natCast]
    refine src_rng2 hm ?_ (by omega) hg hs hpl
    rw [show (lo' : Int) + ((hi' + 1 - lo' : Nat) : Int) = (hi' : Int) + 1 by omega]
    exact h
  · have e : hi.toNat + 1 - lo.toNat = 0 := by omega
    rw [e]
    exact src_rng0 hm h (by omega) hg hs hpl
end
theorem ws_mono {X : Cx} {st : Stmt} {D : Ends} {σ : L2.St} {H : Hp} (Q : L2.St → Hp → Prop) (h : WS X st { D with nx := Q } σ H) (k : ∀ σ' H', Q σ' H' → D.nx σ' H') : WS X st D σ H := fun pins s I =>
  wpAny_mono (h pins s I) (fun fl s' z => by
    cases fl with
    | next =>
      obtain ⟨σ', H', J, q⟩ := z
      exact ⟨σ', H', J, k _ _ q⟩
    | ret u => exact z
    | brk => exact z
    | cont => exact z) fun _ _ z => z
theorem lo_is {N : Net} {r : List Nat} {k : Nat} (hk : r.length = k) : [PyData.int 0] ++ (enD (r.map fun (h : Nat) => PyData.int h)).map (gRl N k) = (0 :: (List.range r.length).map fun i => ((r.getD i 0 : Nat) : Int) - (dist N i r.length : Nat)).map PyData.int := by
  subst hk
  rw [rl_eq]
  rfl
theorem hi_is {N : Net} {r : List Nat} {k m : Nat} (hk : r.length = k) : [PyData.int (m : Int)] ++ (enD (r.map fun (h : Nat) => PyData.int h)).map (gRh N k) = ((m : Int) :: (List.range r.length).map fun i => ((r.getD i 0 : Nat) : Int) + (dist N i r.length : Nat)).map PyData.int := by
  subst hk
  rw [rh_eq]
  rfl
theorem loI_top {N : Net} {r : List Nat} {m : Nat} (h : ∀ x ∈ r, x ≤ m) : loI N r ≤ m := loI_le.mpr fun i hi => by
  have : r.getD i 0 ∈ r := by
    rw [List.getD_eq_getElem?_getD, List.getElem?_eq_getElem hi]
    exact List.getElem_mem hi
  have := h _ this
  omega
section
variable {P : Program} {w : World} {K : PySem.W.Frag} {mg : Str → Option Value} {base : Heap}
def gGrown (ds : List PyData) (d : PyData) : Prop := ∃ (N : Net) (t : Told) (m k : Nat) (rs : List (List Nat)), ds = [matD N.n (dist N), tlD t, .int m, rsD rs] ∧ N.Ok ∧ TOk N t ∧ m ≤ 99 ∧ rs ≠ [] ∧ k < t.length ∧ (∀ r ∈ rs, r.length = k ∧ ∀ x ∈ r, x ≤ m) ∧ rs.length * (m + 1) ≤ 20000 ∧ d = rsD (rs.flatMap (ext N t m))
abbrev nGrown : List Str := ["table", "told", "most", "rows", "place", "found", "row", "least", "one", "height", "limit"]
theorem scGrown : FnScope nGrown ["table", "told", "most", "rows"] (defScope (topS 34)) := ⟨rfl, rfl, rfl, by decide +kernel, rfl, by decide +kernel, by decide +kernel⟩
theorem ok_grown (T : Top K mg) : Dn P w K mg base "grown" 1 L2.CX0 ["table", "told", "most", "rows"] (PuD K 4 gGrown) := by
  obtain ⟨tR, mR⟩ := T.mRows
  refine dn0 T.aGrown scGrown pud_len fun f cdv A outer s H vs Q E hr h => ?_
  obtain ⟨F, ds, d, s1, hA, hn, ⟨N, t, m, k, rs, rfl, ok, tk, hm, h0, hk, hrs, few, rfl⟩, q⟩ := h
  obtain ⟨v1, v2, v3, v4, rfl, h1, h2, h3, h4⟩ := dpA4 hA
  have n4 := ok.n4
  have tl := tk.len
  obtain ⟨r0, rs', ers⟩ : ∃ r0 rs', rs = r0 :: rs' := List.exists_cons_of_ne_nil h0
  have hk0 : r0.length = k := (hrs r0 (by rw [ers]; exact List.mem_cons_self)).1
  refine wss_cons (ws_set 4 scGrown.nd (YE.w (d := .int k) (YE.is (ye_callB cd_lenT T.len PySem.boot_len (ya_cons (ye_ixL (yv 3 h4) ye_int (d := rwD r0) (atN (j := 0) rfl (by rw [ers]; rfl))) ya_nil)) (by rw [List.length_map, hk0])) s1 fun u F2 H2 n2 du => ?_))
  cases dp_int du
  refine wss_cons (ws_set 5 scGrown.nd (YL.w (yl_lst (ds := []) ya_nil) n2.i fun l xs F3 H3 n3 hl fl el dA => ?_))
  cases dA
  have nw3 := n2.trans n3
  have hl' : H l = none := n2.h.free hl
  refine wss_cons (ws_for PassesOwn.never rfl (src_list (yv 3 (Dpx h4 nw3.f))) n3.i fun F3' H3' n3' => ⟨fun i F4 σ4 H4 => Nw F H F4 H4 ∧ Same F3' F4 ∧ F4 l = none ∧ (∃ xs, H4 l = some (.lst xs) ∧ DpAll K F4 xs (((rs.take i).flatMap (ext N t m)).map rwD)) ∧ ∃ a b c e g, σ4 = [some v1, some v2, some v3, some v4, some (.int k), some (.ref l), a, b, c, e, g],
    ⟨nw3.trans n3', Same.refl _, n3'.out fl (by rw [el]; exact fun z => nomatch z), ⟨[], n3'.h l _ el, .nil⟩, none, none, none, none, none, rfl⟩, ?_, ?_, ?_⟩)
  · rintro i F4 σ4 H4 ⟨n, s, _⟩
    exact ⟨s, n.i⟩
  · rintro i d F4 σ4 H4 F5 H5 u hd ⟨nw4, sf4, fl4, ⟨xs, el4, dA4⟩, a, b, c, e, g, rfl⟩ n5 du
    have hi : i < rs.length := by
      have := (List.getElem?_eq_some_iff.mp hd).1
      rw [List.length_map] at this
      exact this
    rw [List.getElem?_map, List.getElem?_eq_getElem hi] at hd
    cases hd
    have htk : rs.take (i + 1) = rs.take i ++ [rs[i]] := by rw [List.take_add_one, List.getElem?_eq_getElem hi]; rfl
    obtain ⟨hrk, hrm⟩ := hrs rs[i] (List.getElem_mem hi)
    have lenB : xs.length ≤ i * (m + 1) := by
      rw [dpA_len dA4, List.length_map]
      have := flat_few (ext_few N t m) (rs.take i)
      rw [List.length_take] at this
      exact Nat.le_trans this (Nat.mul_le_mul_right _ (Nat.min_le_left _ _))
    have lenT : (i + 1) * (m + 1) ≤ 20000 := Nat.le_trans (Nat.mul_le_mul_right _ hi) few
    rw [Nat.add_mul] at lenT
    have lenX := ext_few N t m rs[i]
    generalize hrr : rs[i] = r at du htk hrk hrm lenX
    have nw5 := nw4.trans n5
    have fl5 : F5 l = none := n5.out fl4 (by rw [el4]; exact fun z => nomatch z)
    have el5 := n5.h l _ el4
    have g1 := Dpx h1 nw5.f
    refine wg_name 6 scGrown.nd ?_
    refine wss_cons (ws_set 7 scGrown.nd (YE.w (d := .int (loI N r)) (ye_callB (cd_maxL rfl (by simp)) T.max PyProof.Rows.boot_max (ya_cons (YL.ye (YL.is (yl_cat (yl_lst (ds := [.int 0]) (ya_cons ye_int ya_nil)) (yl_comp (own := [("one", 8), ("height", 9)]) rfl scGrown.nd (src_enT T.enum (ya_cons (yv 6 du) ya_nil)) (blkOk_by (N := nGrown) (sc := defScope (topS 34)) (by decide +kernel)) (by rw [enD_len, List.length_map]; omega) (gRl N k) fun d hd => ?_) (by rw [List.length_map, enD_len, List.length_map, List.length_singleton]; omega)) (lo_is hrk))) ya_nil)) nw5.i fun u6 F6 H6 n6 du6 => ?_))
    · obtain ⟨j, x, hx, rfl⟩ := enD_mem hd
      have hj : j < r.length := by
        have := (List.getElem?_eq_some_iff.mp hx).1
        rw [List.length_map] at this
        exact this
      rw [List.getElem?_map, List.getElem?_eq_getElem hj] at hx
      cases hx
      exact tn2 8 9 rfl (fun _ _ => rfl) (fun F1 u w s du dw s0 H0 C cl fp => ye_bin od_sub (yv 9 dw) (ye_mat (yv 0 (Dpx g1 s)) (yv 8 du) (yv 4 (Dp.int _)) (by omega) (by omega)))
        (fun s0 H0 C cl fp => pg_tup rfl (pgs_cons (pg_name (i := 8) scGrown.nd rfl (Or.inl rfl)) (pgs_cons (pg_name (i := 9) scGrown.nd rfl (Or.inl rfl)) pgs_nil rfl) rfl) rfl rfl)
    cases dp_int du6
    have nw6 := nw5.trans n6
    have fl6 : F6 l = none := n6.out fl5 (by rw [el5]; exact fun z => nomatch z)
    have el6 := n6.h l _ el5
    have g1' := Dpx h1 nw6.f
    have g3 := Dpx h3 nw6.f
    have dr6 := Dpx du n6.f
    refine wss_cons (ws_set 10 scGrown.nd (YE.w (d := .int (hiI N m r)) (ye_callB (cd_minL rfl (by simp)) T.min PyProof.Rows.boot_min (ya_cons (YL.ye (YL.is (yl_cat (yl_lst (ds := [.int m]) (ya_cons (yv 2 g3) ya_nil)) (yl_comp (own := [("one", 8), ("height", 9)]) rfl scGrown.nd (src_enT T.enum (ya_cons (yv 6 dr6) ya_nil)) (blkOk_by (N := nGrown) (sc := defScope (topS 34)) (by decide +kernel)) (by rw [enD_len, List.length_map]; omega) (gRh N k) fun d hd => ?_) (by rw [List.length_map, enD_len, List.length_map, List.length_singleton]; omega)) (hi_is hrk))) ya_nil)) nw6.i fun u7 F7 H7 n7 du7 => ?_))
    · obtain ⟨j, x, hx, rfl⟩ := enD_mem hd
      have hj : j < r.length := by
        have := (List.getElem?_eq_some_iff.mp hx).1
        rw [List.length_map] at this
        exact this
      rw [List.getElem?_map, List.getElem?_eq_getElem hj] at hx
      cases hx
      exact tn2 8 9 rfl (fun _ _ => rfl) (fun F1 u w s du dw s0 H0 C cl fp => ye_bin od_add (yv 9 dw) (ye_mat (yv 0 (Dpx g1' s)) (yv 8 du) (yv 4 (Dp.int _)) (by omega) (by omega)))
        (fun s0 H0 C cl fp => pg_tup rfl (pgs_cons (pg_name (i := 8) scGrown.nd rfl (Or.inl rfl)) (pgs_cons (pg_name (i := 9) scGrown.nd rfl (Or.inl rfl)) pgs_nil rfl) rfl) rfl rfl)
    cases dp_int du7
    have nw7 := nw6.trans n7
    have fl7 : F7 l = none := n7.out fl6 (by rw [el6]; exact fun z => nomatch z)
    have el7 := n7.h l _ el6
    have s47 : Same F4 F7 := (n5.f.trans n6.f).trans n7.f
    have g2 := Dpx h2 nw7.f
    have dr7 := Dpx dr6 n7.f
    have a1 := loI_nn N r
    have a2 := hiI_nn N m r
    have a3 := hiI_le N m r
    have a4 := loI_top (N := N) hrm
    refine wss_cons (ws_mono (fun σ' H' => ∃ F8, Nw F H F8 H' ∧ Same F4 F8 ∧ F8 l = none ∧ (∃ zs, H' l = some (.lst zs) ∧ DpAll K F8 zs (((rs.take i).flatMap (ext N t m)).map rwD ++ (ext N t m r).map rwD)) ∧ σ' = [some v1, some v2, some v3, some v4, some (.int k), some (.ref l), some u, some (.int (loI N r)), c, e, some (.int (hiI N m r))]) ?_ ?_)
    · refine ws_ifY (yt_cmp od_isN (ye_ixT (yv 1 g2) (yv 4 (Dp.int _)) (atN rfl (tl_at hk))) ye_non) nw7.i (fun hb H8 s8 => ?_) (fun hb H8 s8 => ?_)
      · have et : t.getD k none = none := by
          cases z : t.getD k none with
          | none => rfl
          | some x =>
            rw [z] at hb
            cases hb
        refine wss_one (ws_expr (we_extend (nw7.i.trans s8) fl7 (s8 l _ el7) (fun Q z => we_var 5 z) (YL.is (yl_comp (own := [("height", 9)]) rfl scGrown.nd (src_rngI T.range (ya_cons (yv 7 (Dp.int _)) (ya_cons (ye_bin od_add (yv 10 (Dp.int _)) ye_int) ya_nil)) a1 a2 (by omega) (by omega)) (blkOk_by (N := nGrown) (sc := defScope (topS 34)) (by decide +kernel)) (by rw [rngD_len]; omega) (gAdd r) fun d hd => ?_) (ext_freeD (by rw [hrk]; exact et)))
          (by rw [List.length_map]; omega) fun us F9 H9 n9 fl9 el9 dus => ⟨F9, ((nw7.trans (Nw.hop nw7.i s8)).trans n9).mut hl' fl9, s47.trans n9.f, fl9, ⟨_, upd_same, dpA_app (DpAx dA4 (s47.trans n9.f)) dus⟩, rfl⟩))
        obtain ⟨j, hj, rfl⟩ := rngD_mem hd
        exact tn1 9 scGrown.nd (fun _ => rfl) (fun F1 u s du s0 H0 C cl fp => ye_catT (yv 6 (Dpx dr7 s)) (ye_tup (ya_cons (yv 9 du) ya_nil)) (by rw [List.length_map, List.length_singleton]; omega)) (fun _ _ _ _ _ => pg_name (i := 9) scGrown.nd rfl (Or.inl rfl))
      · obtain ⟨x, et⟩ : ∃ x, t.getD k none = some x := by
          cases z : t.getD k none with
          | none =>
            rw [z] at hb
            cases hb
          | some x => exact ⟨x, rfl⟩
        have ee := ext_told (N := N) (m := m) (t := t) (r := r) (by rw [hrk]; exact et)
        have xa := tl_at hk
        rw [et] at xa
        have nw8 := nw7.trans (Nw.hop nw7.i s8)
        refine wss_one (ws_ifY (yt_chain od_le od_le (yv 7 (Dp.int _)) (ye_ixT (yv 1 g2) (yv 4 (Dp.int _)) (atN rfl xa)) fun _ => yv 10 (Dp.int _)) nw8.i (fun hc H9 s9 => ?_) (fun hc H9 s9 => wss_nil ?_))
        · obtain ⟨c1, c2⟩ := (Bool.and_eq_true _ _).mp hc
          rw [if_pos ⟨of_decide_eq_true c1, of_decide_eq_true c2⟩] at ee
          have nw9 := nw8.trans (Nw.hop nw8.i s9)
          refine wss_one (ws_expr (we_append nw9.i fl7 (s9 l _ (s8 l _ el7)) (fun Q z => we_var 5 z) (YE.ev (ye_catT (yv 6 dr7) (ye_tup (ya_cons (ye_ixT (yv 1 g2) (yv 4 (Dp.int _)) (atN rfl xa)) ya_nil)) (by rw [List.length_map, List.length_singleton]; omega)) nw9.i) (by omega) fun u8 F9 H9 n9 fl9 el9 du9 => ⟨F9, (nw9.trans n9).mut hl' fl9, s47.trans n9.f, fl9, ⟨_, upd_same, dpA_app (DpAx dA4 (s47.trans n9.f)) ?_⟩, rfl⟩))
          rw [ee]
          refine dpA_one ?_
          show Dp K F9 u8 (PyData.tuple ((r ++ [x]).map fun (h : Nat) => PyData.int h))
          rw [List.map_append]
          exact du9
        · have nw9 := nw8.trans (Nw.hop nw8.i s9)
          refine ⟨F7, nw9, s47, fl7, ⟨xs, s9 l _ (s8 l _ el7), ?_⟩, rfl⟩
          rw [ee, if_neg (fun z => by rw [decide_eq_true z.1, decide_eq_true z.2] at hc; cases hc), List.map_nil, List.append_nil]
          exact DpAx dA4 s47
    · rintro σ' H8 ⟨F8, nw8, s48, fl8, ⟨zs, el8, dz⟩, rfl⟩
      have lz : zs.length ≤ 20000 := by
        rw [dpA_len dz, List.length_append, List.length_map, List.length_map]
        have := dpA_len dA4
        rw [List.length_map] at this
        omega
      have nL := nw8.learn hl' el8 fl8
      have dl : Dp K (upd F8 l (.lst zs)) (.ref l) (.list (((rs.take i).flatMap (ext N t m)).map rwD ++ (ext N t m r).map rwD)) := .lst (sqL_of upd_same) (DpAx dz (same_new fl8))
      refine wss_one (ws_ifY (k := false) (YT.is (yt_cmp od_gt (ye_callB cd_lenL T.len PySem.boot_len (ya_cons (yv 5 dl) ya_nil)) (ye_globI mR ⟨_, rfl⟩)) (decide_eq_false ?_)) nL.i (fun e => nomatch e) fun _ H9 s9 => wss_nil ⟨F8, nw8.trans (Nw.hop nw8.i s9), sf4.trans s48, fl8, ⟨zs, s9 l _ el8, ?_⟩, _, _, _, _, _, rfl⟩)
      · have := dpA_len dz
        omega
      · rw [htk, List.flatMap_append, List.map_append, List.flatMap_cons, List.flatMap_nil, List.append_nil]
        exact dz
  · rintro F4 σ4 H4 ⟨nw4, sf4, fl4, ⟨xs, el4, dA4⟩, a, b, c, e, g, rfl⟩
    rw [List.length_map, List.take_length] at dA4
    exact wss_one (ws_ret (we_var 5 (q _ _ H4 (nw4.learn hl' el4 fl4) (.lst (sqL_of upd_same) (DpAx dA4 (same_new fl4))))))
end
end K10
set_option Elab.async false
set_option linter.all false
set_option maxRecDepth 100000
set_option maxHeartbeats 4000000
/-! all_rows, number_told, mean_height, heights_at. -/
namespace K10
open PySem PySem.Spec PyProof.Rows L2

/-- data of which no part lies too deep -/
def Sh (k : Nat) (d : PyData) : Prop := d.canLay0 = true ∧ d.depth ≤ k
theorem sh_all {k : Nat} : ∀ {ds : List PyData}, (∀ x ∈ ds, Sh k x) → PyData.canLayAll0 ds = true ∧ PyData.depthAll ds ≤ k
  | [], _ => ⟨rfl, Nat.zero_le _⟩
  | d :: ds, h => by
    obtain ⟨a, b⟩ := sh_all fun x hx => h x (List.mem_cons_of_mem _ hx)
    obtain ⟨c, e⟩ := h d List.mem_cons_self
    refine ⟨?_, ?_⟩
    · unfold PyData.canLayAll0
      rw [a, c]
      rfl
    · unfold PyData.depthAll
      omega
theorem sh_int {k : Nat} {i : Int} : Sh k (.int i) := ⟨by simp only [PyData.canLay0], by simp only [PyData.depth]; omega⟩
theorem sh_bl {k : Nat} {i : Bool} : Sh k (.bool i) := ⟨by simp only [PyData.canLay0], by simp only [PyData.depth]; omega⟩
theorem sh_non {k : Nat} : Sh k .none := ⟨by simp only [PyData.canLay0], by simp only [PyData.depth]; omega⟩
theorem sh_tup {k : Nat} {ds : List PyData} (h : ∀ x ∈ ds, Sh k x) : Sh (k + 1) (.tuple ds) := by
  obtain ⟨a, b⟩ := sh_all h
  exact ⟨by simp only [PyData.canLay0]; exact a, by simp only [PyData.depth]; omega⟩
theorem sh_lst {k : Nat} {ds : List PyData} (h : ∀ x ∈ ds, Sh k x) : Sh (k + 1) (.list ds) := by
  obtain ⟨a, b⟩ := sh_all h
  exact ⟨by simp only [PyData.canLay0]; exact a, by simp only [PyData.depth]; omega⟩
theorem Sh.sh {k : Nat} {d : PyData} (h : Sh k d) (hk : k ≤ 64) : SeqAt.shaped d = true := Bool.and_eq_true_iff.mpr ⟨h.1, decide_eq_true (Nat.le_trans h.2 hk)⟩
theorem sh_rw (r : List Nat) : Sh 1 (rwD r) := sh_tup fun x hx => by
  obtain ⟨h, _, rfl⟩ := List.mem_map.mp hx
  exact sh_int
theorem sh_rs (rs : List (List Nat)) : Sh 2 (rsD rs) := sh_lst fun x hx => by
  obtain ⟨h, _, rfl⟩ := List.mem_map.mp hx
  exact sh_rw h
theorem sh_nil : Sh 1 (.list []) := sh_lst (k := 0) fun x hx => by cases hx
theorem eqv_nil (ds : List PyData) : PyData.eqv (.list ds) (.list []) = ds.isEmpty := by
  cases ds <;> simp only [PyData.eqv, PyData.eqvAll, List.isEmpty]
theorem rowsT_top {N : Net} {t : Told} {m : Nat} : ∀ {k : Nat} {r : List Nat}, r ∈ rowsT N t m k → ∀ x ∈ r, x ≤ m
  | 0, r, h, x, hx => by
    rw [List.mem_singleton.mp h] at hx
    cases hx
  | k + 1, r, h, x, hx => by
    obtain ⟨s, hs, e⟩ := List.mem_flatMap.mp h
    obtain ⟨y, hy, e⟩ := List.mem_map.mp e
    rw [← e] at hx
    rcases List.mem_append.mp hx with z | z
    · exact rowsT_top hs x z
    · rw [List.mem_singleton.mp z]
      have := List.mem_range.mp (List.mem_filter.mp hy).1
      omega
theorem rowsT_few' {N : Net} {t : Told} {m k n : Nat} (h : k ≤ n) (few : (m + 1) ^ n ≤ 20000) : (rowsT N t m k).length ≤ 20000 :=
  Nat.le_trans (rowsT_few N t m k) (Nat.le_trans (Nat.pow_le_pow_right (Nat.succ_pos m) h) few)
section
variable {X : Cx} {σ : L2.St} {F H : Hp} {a b : Expr} {pos : Pos} {d : PyData}
theorem yl_rep1 {n : Nat} (ha : YL X a σ F [d]) (hb : YE X b σ F (.int (n : Int))) (hn : n ≤ 100000) : YL X (.BinOp a .Mult b pos) σ F (List.replicate n d) := fun H s Q q =>
  go_e (pe_op op_rep pe_we pe_we) (ha H s _ fun p xs F2 H2 n2 hp fp ep dA => hb.mono n2.f H2 n2.i _ fun y F3 H3 n3 dy => by
    cases dA with
    | cons dx dn =>
      cases dn
      cases dp_int dy
      refine ⟨p, n, _, rfl, rfl, n3.h p _ ep, by omega, by omega, by rw [List.length_singleton, Int.toNat_natCast, Nat.one_mul]; exact sz4 hn, fun r hr => ?_⟩
      rw [Int.toNat_natCast, List.flatten_replicate_singleton]
      have nw := n2.trans n3
      refine q r _ F3 _ (nw.trans (Nw.hop n3.i (same_new hr))) (nw.h.free hr) (n3.i.free hr) upd_same ?_
      have key : ∀ k, DpAll X.K F3 (List.replicate k _) (List.replicate k d) := fun k => by
        induction k with
        | zero => exact .nil
        | succ k ih => exact .cons (Dpx dx n3.f) ih
      exact key n)
end
theorem sum_cast : ∀ l : List Nat, (l.map fun (x : Nat) => (x : Int)).sum = ((l.sum : Nat) : Int)
  | [] => rfl
  | x :: l => by
    rw [List.map_cons, List.sum_cons, List.sum_cons, sum_cast l]
    omega
def gAt (p : Nat) : PyData → PyData
  | .tuple l => l.getD p .none
  | _ => .none
theorem gAt_rw {p : Nat} {r : List Nat} (h : p < r.length) : gAt p (rwD r) = .int ((r.getD p 0 : Nat) : Int) := by
  show (r.map fun (h : Nat) => PyData.int h).getD p .none = _
  rw [List.getD_eq_getElem?_getD, List.getElem?_map, List.getElem?_eq_getElem h, List.getD_eq_getElem?_getD, List.getElem?_eq_getElem h]
  rfl
theorem rw_at {p : Nat} {r : List Nat} (h : p < r.length) : (r.map fun (h : Nat) => PyData.int h)[p]? = some (.int ((r.getD p 0 : Nat) : Int)) := by
  rw [List.getElem?_map, List.getElem?_eq_getElem h, List.getD_eq_getElem?_getD, List.getElem?_eq_getElem h]
  rfl
/-- how many rows have a height at a place -/
def cntN (rs : List (List Nat)) (p h : Nat) : Nat := (rs.filter fun r => decide (r.getD p 0 = h)).length
def meanS (N : Net) (t : Told) (m p : Nat) : Nat := ((rowsT N t m t.length).map fun r => r.getD p 0).sum
def ratD (a b : Nat) : PyData := .tuple [.int ((a / Nat.gcd a b : Nat) : Int), .int ((b / Nat.gcd a b : Nat) : Int)]
noncomputable def meanR (N : Net) (t : Told) (m p : Nat) : Option PyData := if noR N t m then none else some (ratD (meanS N t m p) (rowsT N t m t.length).length)
section
variable {P : Program} {w : World} {K : PySem.W.Frag} {mg : Str → Option Value} {base : Heap} {C : Addr}
def gAllRows (ds : List PyData) (d : PyData) : Prop := ∃ (N : Net) (t : Told) (m : Nat), ds = [matD N.n (dist N), tlD t, .int m] ∧ N.Ok ∧ TOk N t ∧ m ≤ 99 ∧ (m + 1) ^ t.length ≤ 20000 ∧ d = rsD (rowsT N t m t.length)
abbrev nAllRows : List Str := ["table", "told", "most", "rows", "place"]
theorem scAllRows : FnScope nAllRows ["table", "told", "most"] (defScope (topS 35)) := ⟨rfl, rfl, rfl, by decide +kernel, rfl, by decide +kernel, by decide +kernel⟩
theorem ok_allRows (T : Top K mg) : Dn P w K mg base "all_rows" 2 L2.CX0 ["table", "told", "most"] (PuD K 3 gAllRows) := by
  have D1 := ok_grown (P := P) (w := w) (base := base) T
  refine dn0 T.aAllRows scAllRows pud_len fun f cdv A outer s H vs Q E hr h => ?_
  obtain ⟨F, ds, d, s1, hA, hn, ⟨N, t, m, rfl, ok, tk, hm, few, rfl⟩, q⟩ := h
  obtain ⟨v1, v2, v3, rfl, h1, h2, h3⟩ := dpA3 hA
  have n4 := ok.n4
  have tl := tk.len
  refine wss_cons (ws_set 3 scAllRows.nd (YE.w (d := rsD [[]]) (YL.ye (yl_lst (ds := [rwD []]) (ya_cons (ye_tup ya_nil) ya_nil))) s1 fun u F2 H2 n2 du => ?_))
  refine wss_cons (ws_for PassesOwn.never rfl (src_rng1 (n := t.length) T.range (ya_cons (YE.is (ye_callB cd_lenT T.len PySem.boot_len (ya_cons (yv 1 (Dpx h2 n2.f)) ya_nil)) (by rw [List.length_map])) ya_nil) (by omega)) n2.i fun F3 H3 n3 => ⟨fun i F4 σ4 H4 => Nw F H F4 H4 ∧ Same F3 F4 ∧ ∃ v b, σ4 = [some v1, some v2, some v3, some v, b] ∧ Dp K F4 v (rsD (rowsT N t m i)),
    ⟨n2.trans n3, Same.refl _, u, none, rfl, Dpx du n3.f⟩, ?_, ?_, ?_⟩)
  · rintro i F4 σ4 H4 ⟨n, s, _⟩
    exact ⟨s, n.i⟩
  · rintro i d F4 σ4 H4 F5 H5 u' hd ⟨nw4, sf4, v, b, rfl, dv⟩ n5 du'
    have hi : i < t.length := by
      have := (List.getElem?_eq_some_iff.mp hd).1
      rw [rngD_len] at this
      exact this
    rw [rngD_at hi, Nat.zero_add] at hd
    cases hd
    have nw5 := nw4.trans n5
    have dv5 := Dpx dv n5.f
    refine wg_name 4 scAllRows.nd ?_
    refine wss_one (ws_set 3 scAllRows.nd (YE.w (d := rsD (rowsT N t m (i + 1))) (ye_if (k := !(rowsT N t m i).isEmpty) (YT.is (yt_cmp (od_neD hr.units ((sh_rs _).sh (by decide)) (sh_nil.sh (by decide))) (yv 3 dv5) (YL.ye (yl_lst (ds := []) ya_nil))) ?_)
      (fun e => ye_call D1 hr pass0 (ya_cons (yv 0 (Dpx h1 nw5.f)) (ya_cons (yv 1 (Dpx h2 nw5.f)) (ya_cons (yv 2 (Dpx h3 nw5.f)) (ya_cons (yv 3 dv5) ya_nil)))) ⟨N, t, m, i, rowsT N t m i, rfl, ok, tk, hm, fun z => ?_, hi, fun r hr => ⟨rowsT_len hr, rowsT_top hr⟩, ?_, rfl⟩)
      (fun e => YE.is (YL.ye (yl_lst (ds := []) ya_nil)) ?_)) nw5.i fun v6 F6 H6 n6 dv6 => ⟨F6, nw5.trans n6, (sf4.trans n5.f).trans n6.f, v6, _, rfl, dv6⟩))
    · show (!PyData.eqv (.list ((rowsT N t m i).map rwD)) (.list [])) = _
      rw [eqv_nil, List.isEmpty_map]
    · rw [z] at e
      cases e
    · have h1 := Nat.mul_le_mul_right (m + 1) (rowsT_few N t m i)
      rw [← Nat.pow_succ] at h1
      exact Nat.le_trans h1 (Nat.le_trans (Nat.pow_le_pow_right (Nat.succ_pos m) (by omega : i + 1 ≤ t.length)) few)
    · have z : rowsT N t m i = [] := by
        cases q : rowsT N t m i with
        | nil => rfl
        | cons a l =>
          rw [q] at e
          cases e
      show _ = rsD ((rowsT N t m i).flatMap (ext N t m))
      rw [z]
      rfl
  · rintro F4 σ4 H4 ⟨nw4, sf4, v, b, rfl, dv⟩
    rw [rngD_len] at dv
    exact wss_one (ws_ret (we_var 3 (q _ F4 H4 nw4 dv)))
def gNumber (ds : List PyData) (d : PyData) : Prop := ∃ (N : Net) (t : Told) (m : Nat), ds = [netD N, tlD t, .int m] ∧ N.Ok ∧ TOk N t ∧ m ≤ 99 ∧ (m + 1) ^ t.length ≤ 20000 ∧ d = .int (rowsT N t m t.length).length
abbrev nNumber : List Str := ["net", "told", "most", "table"]
theorem scNumber : FnScope nNumber ["net", "told", "most"] (defScope (topS 36)) := ⟨rfl, rfl, rfl, by decide +kernel, rfl, by decide +kernel, by decide +kernel⟩
theorem ok_number (T : Top K mg) : Dn P w K mg base "number_told" 5 L2.CX0 ["net", "told", "most"] (PuD K 3 gNumber) := by
  have D1 := ok_both (P := P) (w := w) (base := base) T
  have D2 := ok_allRows (P := P) (w := w) (base := base) T
  have D4 := ok_needN (P := P) (w := w) (base := base) T
  obtain ⟨tH, mH⟩ := T.mHeight
  refine dn0 T.aNumber scNumber pud_len fun f cdv A outer s H vs Q E hr h => ?_
  obtain ⟨F, ds, d, s1, hA, hn, ⟨N, t, m, rfl, ok, tk, hm, few, rfl⟩, q⟩ := h
  obtain ⟨v1, v2, v3, rfl, h1, h2, h3⟩ := dpA3 hA
  refine wss_cons (ws_set 3 scNumber.nd (YE.w (ye_call D1 hr pass0 (ya_cons (yv 0 h1) (ya_cons (yv 1 h2) ya_nil)) ⟨_, _, rfl, ok, tk, rfl⟩) s1 fun u F2 H2 n2 du => ?_))
  refine wss_cons (ws_expr (YE.w (d := .none) (ye_call D4 (hr.mono (by decide)) pass0 (ya_cons (yv 2 (Dpx h3 n2.f)) (ya_cons ye_int (ya_cons (ye_globI mH ⟨_, rfl⟩) ya_nil))) ⟨_, _, _, rfl, by omega, rfl⟩) n2.i fun u' F3 H3 n3 _ => ?_))
  have nw3 := n2.trans n3
  refine wss_one (ws_ret (we_end (fun v F' H' n dv => q v F' H' (nw3.trans n) dv) nw3.i (ye_callB cd_lenL T.len PySem.boot_len (ya_cons (ye_call D2 (hr.mono (by decide)) pass0 (ya_cons (yv 3 (Dpx du n3.f)) (ya_cons (yv 1 (Dpx h2 nw3.f)) (ya_cons (yv 2 (Dpx h3 nw3.f)) ya_nil))) ⟨N, t, m, rfl, ok, tk, hm, few, rfl⟩) ya_nil)) ?_))
  rw [List.length_map]
def gMean (ds : List PyData) (r : Option PyData) : Prop := ∃ (N : Net) (t : Told) (m p : Nat), ds = [netD N, tlD t, .int m, .int p] ∧ N.Ok ∧ TOk N t ∧ m ≤ 99 ∧ p < N.n ∧ (m + 1) ^ t.length ≤ 20000 ∧ (noR N t m = false → 0 < (rowsT N t m t.length).length) ∧ r = meanR N t m p
abbrev nMean : List Str := ["net", "told", "most", "place", "table", "height", "rows", "row"]
theorem scMean : FnScope nMean ["net", "told", "most", "place"] (defScope (topS 37)) := ⟨rfl, rfl, rfl, by decide +kernel, rfl, by decide +kernel, by decide +kernel⟩
theorem ok_mean (T : Top K mg) (R : NoR K mg C) : Dn P w K mg base "mean_height" 5 (L2.CX P w) ["net", "told", "most", "place"] (PuX K 4 C gMean) := by
  have D1 := ok_both (P := P) (w := w) (base := base) T
  have D2 := ok_clashOf (P := P) (w := w) (base := base) T
  have D3 := ok_allRows (P := P) (w := w) (base := base) T
  have D4 := ok_needN (P := P) (w := w) (base := base) T
  have D5 := ok_needPlace (P := P) (w := w) (base := base) T
  have D6 := ok_low (P := P) (w := w) (base := base) T
  obtain ⟨tH, mH⟩ := T.mHeight
  refine dnX T.aMean scMean pux_len fun f cdv A outer s H vs Q E hr h => ?_
  obtain ⟨F, ds, r, s1, hA, hn, ⟨N, t, m, p, rfl, ok, tk, hm, hp, few, hpos, rfl⟩, q, qe⟩ := h
  obtain ⟨v1, v2, v3, v4, rfl, h1, h2, h3, h4⟩ := dpA4 hA
  have n4 := ok.n4
  have tl := tk.len
  refine wss_cons (ws_set 4 scMean.nd (YE.w (ye_call D1 hr pass0 (ya_cons (yv 0 h1) (ya_cons (yv 1 h2) ya_nil)) ⟨_, _, rfl, ok, tk, rfl⟩) s1 fun u F2 H2 n2 du => ?_))
  refine wss_cons (ws_expr (YE.w (d := .none) (ye_call D4 (hr.mono (by decide)) pass0 (ya_cons (yv 2 (Dpx h3 n2.f)) (ya_cons ye_int (ya_cons (ye_globI mH ⟨_, rfl⟩) ya_nil))) ⟨_, _, _, rfl, by omega, rfl⟩) n2.i fun u' F3' H3' n3' _ => ?_))
  have nw3' := n2.trans n3'
  refine wss_cons (ws_expr (YE.w (d := .none) (ye_call D5 (hr.mono (by decide)) pass0 (ya_cons (yv 0 (Dpx h1 nw3'.f)) (ya_cons (yv 3 (Dpx h4 nw3'.f)) ya_nil)) ⟨N, p, rfl, hp, rfl⟩) nw3'.i fun u'' F3 H3 n3 _ => ?_))
  have nw3 := nw3'.trans n3
  have g2 := Dpx h2 nw3.f
  have g3 := Dpx h3 nw3.f
  have g4 := Dpx h4 nw3.f
  have du3 := Dpx du (n3'.f.trans n3.f)
  refine wss_cons (ws_ifY (k := noR N t m) (YT.is (yw_pt (yw_or (yt_cmp od_notN (ye_call D2 (hr.mono (by decide)) pass0 (ya_cons (yv 4 du3) (ya_cons (yv 1 g2) ya_nil)) ⟨_, _, rfl, ok, tk, rfl⟩) ye_non) fun _ => yw_or1 (yt_val (ye_callB (cd_any rfl) T.any (by decide +kernel) (ya_cons (YL.ye (YL.is (yl_comp (own := [("height", 5)]) rfl scMean.nd (src_tup (yv 1 g2)) (blkOk_by (N := nMean) (sc := defScope (topS 37)) (by decide +kernel)) (by rw [List.length_map]; omega) (gOver m) fun d hd => ?_) (over_eq t m))) ya_nil))))) ?_) nw3.i (fun hk H4 s4 => ?_) (fun hk H4 s4 => wss_nil ?_))
  · obtain ⟨o, ho, rfl⟩ := List.mem_map.mp hd
    refine tn1 5 scMean.nd (fun _ => rfl) (fun F1 u s du s0 H0 C cl fp => ?_) (fun _ _ _ _ _ => pg_name (i := 5) scMean.nd rfl (Or.inl rfl))
    cases o with
    | none => exact YE.is (ye_and (k2 := false) (ye_cmp od_notN (yv 5 du) ye_non) fun e => nomatch e) rfl
    | some x => exact YE.is (ye_and (ye_cmp od_notN (yv 5 du) ye_non) fun _ => ye_one (ye_cmp od_gt (yv 5 du) (yv 2 (Dpx g3 s)))) rfl
  · rw [isn_pair, over_any]
    rfl
  · refine wss_one (ws_norow R rfl (qe ?_ _ (nw3.h.trans s4)))
    unfold meanR
    rw [if_pos hk]
  · have e : meanR N t m p = some (ratD (meanS N t m p) (rowsT N t m t.length).length) := by
      unfold meanR
      rw [if_neg (by rw [hk]; decide)]
    have n5 := nw3.trans (Nw.hop nw3.i s4)
    refine wss_cons (ws_set 6 scMean.nd (YE.w (ye_call D3 (hr.mono (by decide)) pass0 (ya_cons (yv 4 du3) (ya_cons (yv 1 g2) (ya_cons (yv 2 g3) ya_nil))) ⟨N, t, m, rfl, ok, tk, hm, few, rfl⟩) n5.i fun v6 F6 H6 n6 dv6 => ?_))
    have nw6 := n5.trans n6
    have few' := rowsT_few' (N := N) (t := t) (Nat.le_refl t.length) few
    refine wss_one (ws_ret (we_end (fun v F' H' n dv => q _ e v F' H' (nw6.trans n) dv) nw6.i (ye_call D6 (hr.mono (by decide)) pass0 (ya_cons (YE.is (ye_callB (cd_sum (ns := ((rowsT N t m t.length).map fun r => r.getD p 0).map fun (x : Nat) => (x : Int)) rfl) T.sum (by decide +kernel) (ya_cons (YL.ye (YL.is (yl_comp (own := [("row", 7)]) rfl scMean.nd (src_list (yv 6 dv6)) (blkOk_by (N := nMean) (sc := defScope (topS 37)) (by decide +kernel)) (by rw [List.length_map]; omega) (gAt p) fun d hd => ?_) ?_)) ya_nil)) (congrArg PyData.int (sum_cast _))) (ya_cons (YE.is (ye_callB cd_lenL T.len PySem.boot_len (ya_cons (yv 6 dv6) ya_nil)) (by rw [List.length_map])) ya_nil)) ⟨meanS N t m p, (rowsT N t m t.length).length, rfl, ⟨hpos hk, by omega⟩, rfl⟩) rfl))
    · obtain ⟨r, hr, rfl⟩ := List.mem_map.mp hd
      have lr := rowsT_len hr
      refine tn1 7 scMean.nd (fun _ => rfl) (fun F1 u s du s0 H0 C cl fp => ?_) (fun _ _ _ _ _ => pg_name (i := 7) scMean.nd rfl (Or.inl rfl))
      exact YE.is (ye_ixT (yv 7 du) (yv 3 (Dpx g4 (n6.f.trans s))) (atN rfl (rw_at (by omega)))) (gAt_rw (by omega)).symm
    · rw [List.map_map, List.map_map, List.map_map]
      refine List.map_congr_left fun r hr => ?_
      have lr := rowsT_len hr
      exact gAt_rw (by omega)
def gHeights (ds : List PyData) (d : PyData) : Prop := ∃ (N : Net) (t : Told) (m p : Nat), ds = [netD N, tlD t, .int m, .int p] ∧ N.Ok ∧ TOk N t ∧ m ≤ 99 ∧ p < N.n ∧ (m + 1) ^ t.length ≤ 20000 ∧ d = .tuple ((List.range (m + 1)).map fun h => .int (cntN (rowsT N t m t.length) p h : Nat))
abbrev nHeights : List Str := ["net", "told", "most", "place", "table", "found", "row"]
theorem scHeights : FnScope nHeights ["net", "told", "most", "place"] (defScope (topS 38)) := ⟨rfl, rfl, rfl, by decide +kernel, rfl, by decide +kernel, by decide +kernel⟩
theorem ok_heights (T : Top K mg) : Dn P w K mg base "heights_at" 5 L2.CX0 ["net", "told", "most", "place"] (PuD K 4 gHeights) := by
  have D1 := ok_both (P := P) (w := w) (base := base) T
  have D3 := ok_allRows (P := P) (w := w) (base := base) T
  have D4 := ok_needN (P := P) (w := w) (base := base) T
  have D5 := ok_needPlace (P := P) (w := w) (base := base) T
  obtain ⟨tH, mH⟩ := T.mHeight
  refine dn0 T.aHeights scHeights pud_len fun f cdv A outer s H vs Q E hr h => ?_
  obtain ⟨F, ds, d, s1, hA, hn, ⟨N, t, m, p, rfl, ok, tk, hm, hp, few, rfl⟩, q⟩ := h
  obtain ⟨v1, v2, v3, v4, rfl, h1, h2, h3, h4⟩ := dpA4 hA
  have n4 := ok.n4
  have tl := tk.len
  refine wss_cons (ws_set 4 scHeights.nd (YE.w (ye_call D1 hr pass0 (ya_cons (yv 0 h1) (ya_cons (yv 1 h2) ya_nil)) ⟨_, _, rfl, ok, tk, rfl⟩) s1 fun u F2 H2 n2 du => ?_))
  refine wss_cons (ws_expr (YE.w (d := .none) (ye_call D4 (hr.mono (by decide)) pass0 (ya_cons (yv 2 (Dpx h3 n2.f)) (ya_cons ye_int (ya_cons (ye_globI mH ⟨_, rfl⟩) ya_nil))) ⟨_, _, _, rfl, by omega, rfl⟩) n2.i fun u' F3' H3' n3' _ => ?_))
  have nw3' := n2.trans n3'
  refine wss_cons (ws_expr (YE.w (d := .none) (ye_call D5 (hr.mono (by decide)) pass0 (ya_cons (yv 0 (Dpx h1 nw3'.f)) (ya_cons (yv 3 (Dpx h4 nw3'.f)) ya_nil)) ⟨N, p, rfl, hp, rfl⟩) nw3'.i fun u'' F3 H3 n3 _ => ?_))
  have nw3 := nw3'.trans n3
  have g2 := Dpx h2 nw3.f
  have g3 := Dpx h3 nw3.f
  have g4 := Dpx h4 nw3.f
  have du3 := Dpx du (n3'.f.trans n3.f)
  refine wss_cons (ws_set 5 scHeights.nd (YL.w (yl_rep1 (n := m + 1) (d := .int 0) (yl_lst (ds := [.int 0]) (ya_cons ye_int ya_nil)) (ye_bin od_add (yv 2 g3) ye_int) (by omega)) nw3.i fun l xs F4 H4 n4' hl fl el dA => ?_))
  have exs : xs = rowV (m + 1) fun _ => 0 := by
    have e1 : List.replicate (m + 1) (PyData.int 0) = (List.replicate (m + 1) (0 : Int)).map PyData.int := by rw [List.map_replicate]
    rw [e1] at dA
    rw [dpA_ints dA, List.map_replicate]
    unfold rowV
    rw [List.map_const', List.length_range]
    rfl
  subst exs
  have nw4 := nw3.trans n4'
  have hl' : H l = none := nw3.h.free hl
  refine wss_cons (ws_for PassesOwn.never rfl (src_list (ye_call D3 (hr.mono (by decide)) pass0 (ya_cons (yv 4 (Dpx du3 n4'.f)) (ya_cons (yv 1 (Dpx g2 n4'.f)) (ya_cons (yv 2 (Dpx g3 n4'.f)) ya_nil))) ⟨N, t, m, rfl, ok, tk, hm, few, rfl⟩)) n4'.i fun F5 H5 n5 => ⟨fun i F6 σ6 H6 => Nw F H F6 H6 ∧ Same F5 F6 ∧ F6 l = none ∧ H6 l = some (.lst (rowV (m + 1) fun h => cntN ((rowsT N t m t.length).take i) p h)) ∧ ∃ a, σ6 = [some v1, some v2, some v3, some v4, some u, some (.ref l), a],
    ⟨nw4.trans n5, Same.refl _, n5.out fl (by rw [el]; exact fun z => nomatch z), n5.h l _ el, none, rfl⟩, ?_, ?_, ?_⟩)
  · rintro i F6 σ6 H6 ⟨n, s, _⟩
    exact ⟨s, n.i⟩
  · rintro i d F6 σ6 H6 F7 H7 u7 hd ⟨nw6, sf6, fl6, el6, a, rfl⟩ n7 du7
    have hi : i < (rowsT N t m t.length).length := by
      have := (List.getElem?_eq_some_iff.mp hd).1
      rw [List.length_map] at this
      exact this
    rw [List.getElem?_map, List.getElem?_eq_getElem hi] at hd
    cases hd
    have hr1 := List.getElem_mem hi
    have lr := rowsT_len hr1
    have htk : (rowsT N t m t.length).take (i + 1) = (rowsT N t m t.length).take i ++ [(rowsT N t m t.length)[i]] := by rw [List.take_add_one, List.getElem?_eq_getElem hi]; rfl
    have top : (rowsT N t m t.length)[i].getD p 0 ≤ m := rowsT_top hr1 _ (by
      rw [List.getD_eq_getElem?_getD, List.getElem?_eq_getElem (by omega)]
      exact List.getElem_mem _)
    generalize (rowsT N t m t.length)[i] = r at du7 htk lr top
    have nw7 := nw6.trans n7
    have fl7 : F7 l = none := n7.out fl6 (by rw [el6]; exact fun z => nomatch z)
    refine wg_name 6 scHeights.nd ?_
    refine wss_one (ws_augL (j := r.getD p 0) (m := (cntN ((rowsT N t m t.length).take i) p (r.getD p 0) : Nat)) (n := 1) nw7.i fl7 (n7.h l _ el6) (fun Q z => we_var 5 z) (ye_ixT (yv 6 du7) (yv 3 (Dpx h4 nw7.f)) (atN rfl (rw_at (by omega)))) (rng_at (fun h => V.int ((cntN ((rowsT N t m t.length).take i) p h : Nat) : Int)) (by omega)) ye_int fun H8 s8 => ⟨F7, (nw7.trans (Nw.hop nw7.i s8)).mut hl' fl7, sf6.trans n7.f, fl7, ?_, _, rfl⟩)
    rw [upd_same, htk]
    have e1 : ((cntN ((rowsT N t m t.length).take i) p (r.getD p 0) : Nat) : Int) + 1 = ((cntN ((rowsT N t m t.length).take i) p (r.getD p 0) + 1 : Nat) : Int) := by omega
    rw [e1, rowV_set (by omega)]
    congr 2
    refine rowV_congr fun h _ => ?_
    unfold cntN
    rw [List.filter_append, List.length_append, List.filter_cons, List.filter_nil]
    by_cases z : h = r.getD p 0
    · rw [if_pos z, z, decide_eq_true rfl, if_pos rfl]
      rfl
    · rw [if_neg z, decide_eq_false (fun y => z y.symm), if_neg Bool.false_ne_true]
      rfl
  · rintro F6 σ6 H6 ⟨nw6, sf6, fl6, el6, a, rfl⟩
    rw [List.length_map, List.take_length] at el6
    have nL := nw6.learn hl' el6 fl6
    refine wss_one (ws_ret (we_end (fun v F' H' n dv => q v F' H' (nL.trans n) dv) nL.i (ye_callTy cd_tuple T.tuple PyProof.Rows.boot_tuple (ya_cons (yv 5 (.lst (sqL_of upd_same) (rows_dp _))) ya_nil)) rfl))
end
end K10
set_option Elab.async false
set_option linter.all false
set_option maxRecDepth 100000
set_option maxHeartbeats 4000000
/-! The row of draws: a list that changes; what draws from it. -/
namespace K10
open PySem PySem.Spec PyProof.Rows L2

/-- the heap without the row of draws -/
def er (l : Addr) (H : Hp) : Hp := fun b => if b = l then none else H b
section
variable {l : Addr} {F F1 F2 F' H H1 H2 H' : Hp}
theorem er_at : er l H l = none := if_pos rfl
theorem er_ne {b : Addr} (h : b ≠ l) : er l H b = H b := if_neg h
theorem er_in : Same (er l H) H := fun b o e => by
  by_cases hb : b = l
  · subst hb
    rw [er_at] at e
    cases e
  · rw [er_ne hb] at e
    exact e
theorem er_same (s : Same H H') : Same (er l H) (er l H') := fun b o e => by
  by_cases hb : b = l
  · subst hb
    rw [er_at] at e
    cases e
  · rw [er_ne hb] at e ⊢
    exact s b o e
theorem er_upd {o : HO} : er l (upd H l o) = er l H := by
  funext b
  by_cases hb : b = l
  · subst hb
    rw [er_at, er_at]
  · rw [er_ne hb, er_ne hb, upd_ne hb]
theorem er_sub (s : Same F H) (h : F l = none) : Same F (er l H) := fun b o e => by
  have hb : b ≠ l := ne_of_none e h
  rw [er_ne hb]
  exact s b o e
theorem er_no (s : Same F (er l H)) : F l = none := s.free er_at
abbrev NwE (l : Addr) (F H F' H' : Hp) : Prop := Nw F (er l H) F' (er l H')
theorem Nw.toE (n : Nw F H F' H') (h : F l = none) (q : H l ≠ none) : NwE l F H F' H' := by
  have h' : F' l = none := n.out h q
  refine ⟨er_same n.h, n.f, er_sub n.i h', fun b z => ?_⟩
  rcases n.n b z with y | y
  · exact .inl y
  · by_cases hb : b = l
    · subst hb
      exact .inr er_at
    · exact .inr (by rw [er_ne hb]; exact y)
theorem Nw.thenE (n : Nw F H F1 H1) (hl : H l = none) (m : NwE l F1 H1 F2 H2) : Nw F H F2 H2 := by
  have f2 := er_no m.i
  refine ⟨fun b o e => ?_, n.f.trans m.f, m.i.trans er_in, fun b z => ?_⟩
  · have hb : b ≠ l := ne_of_none e hl
    have := m.h b o (by rw [er_ne hb]; exact n.h b o e)
    rw [er_ne hb] at this
    exact this
  · rcases m.n b z with y | y
    · exact n.n b y
    · by_cases hb : b = l
      · subst hb
        exact absurd f2 z
      · rw [er_ne hb] at y
        exact .inr (n.h.free y)
end
/-- the row: script, how many are read, the mixed number, the rest of a cell -/
def Sv (l a : Addr) (H : Hp) : Prop := ∃ i seed rest : Int, H l = some (.lst [.ref a, .int i, .int seed, .int rest]) ∧ 0 ≤ i
structure Stt (K : PySem.W.Frag) (l a : Addr) (F H : Hp) : Prop where
  s : Same F (er l H)
  v : Sv l a H
  q : ∃ ns : List Int, SqL K F a (ns.map V.int)
theorem Sv.ne {l a : Addr} {H : Hp} (h : Sv l a H) : H l ≠ none := by
  obtain ⟨i, s, r, e, _⟩ := h
  rw [e]
  exact fun z => nomatch z
theorem Sv.hop {l a : Addr} {H H' : Hp} (h : Sv l a H) (s : Same H H') : Sv l a H' := by
  obtain ⟨i, x, r, e, z⟩ := h
  exact ⟨i, x, r, s l _ e, z⟩
section
variable {K : PySem.W.Frag} {l a : Addr} {F F' H H' : Hp}
theorem Stt.no (S : Stt K l a F H) : F l = none := er_no S.s
theorem Stt.i (S : Stt K l a F H) : Same F H := S.s.trans er_in
theorem Stt.nx (S : Stt K l a F H) (n : NwE l F H F' H') (v : Sv l a H') : Stt K l a F' H' := ⟨n.i, v, by
  obtain ⟨ns, h⟩ := S.q
  exact ⟨ns, sqL_at (n.f a) h⟩⟩
theorem Stt.nw (S : Stt K l a F H) (n : Nw F H F' H') : NwE l F H F' H' ∧ Stt K l a F' H' := by
  have e := n.toE S.no S.v.ne
  exact ⟨e, S.nx e (S.v.hop n.h)⟩
end
/-- an expression that may draw: the value is of P -/
def SE (X : Cx) (l a : Addr) (e : Expr) (σ : L2.St) (F : Hp) (P : PyData → Prop) : Prop := ∀ H, Stt X.K l a F H → ∀ Q : VK, (∀ v d F' H', NwE l F H F' H' → Stt X.K l a F' H' → P d → Dp X.K F' v d → Q v H') → WE X e σ H Q
def PuS (K : PySem.W.Frag) (n : Nat) (G : List PyData → (PyData → Prop) → Prop) : Sp := fun vs H Q _ => ∃ l a us F ds P, vs = V.ref l :: us ∧ Stt K l a F H ∧ DpAll K F us ds ∧ ds.length = n ∧ G ds P ∧ ∀ v d F' H', NwE l F H F' H' → Stt K l a F' H' → P d → Dp K F' v d → Q v H'
theorem pus_len {K : PySem.W.Frag} {n : Nat} {G : List PyData → (PyData → Prop) → Prop} {ps : List Str} (h : n + 1 = ps.length := by rfl) : ∀ vs H Q E, PuS K n G vs H Q E → vs.length = ps.length := fun vs H Q E q => by
  obtain ⟨l, a, us, F, ds, P, rfl, _, hA, hn, _⟩ := q
  rw [List.length_cons, dpA_len hA, hn, h]
section
variable {X : Cx} {σ : L2.St} {F F' H H' : Hp} {l a : Addr} {e o b i' : Expr} {es : List Expr} {pos : Pos} {d d1 : PyData} {ds : List PyData} {P : PyData → Prop} {D : Ends}
theorem SE.w {Q : VK} (h : SE X l a e σ F P) (S : Stt X.K l a F H) (q : ∀ v d F' H', NwE l F H F' H' → Stt X.K l a F' H' → P d → Dp X.K F' v d → Q v H') : WE X e σ H Q := h H S Q q
theorem YE.se (h : YE X e σ F d) : SE X l a e σ F (fun x => x = d) := fun H S Q q => h H S.i Q fun v F2 H2 n2 dv => by
  obtain ⟨m, S2⟩ := S.nw n2
  exact q v d F2 H2 m S2 rfl dv
theorem se_call {x : Str} {k n : Nat} {ps : List Str} {G : List PyData → (PyData → Prop) → Prop} {p : Pos} (D : Dn X.prog X.w X.K X.mg X.base x k L2.CX0 ps (PuS X.K n G)) (hr : Room k X.A) (ho : ∀ (H : Hp) (Q : VK), Q (.ref l) H → WE X o σ H Q) (ha : YA X es σ F ds) (hG : G ds P) (hn : ds.length = n := by rfl) (hg : Gl X x := by rfl) (hdb : (x == ("__debug__" : Str)) = false := by decide)
    (he : starEach (o :: es) X.env = (false, eval o X.env) :: starEach es X.env := by rfl) (hpl : (backTo pos (starEach es X.env)).any (·.1) = false := by rfl) : SE X l a (.Call (.Name x p) (o :: es) [] pos) σ F P := fun H S Q q =>
  we_call D hr pass0 (go_a (pa_cons pe_we pa_wa he) (ho H _ (ha H S.i _ fun us F2 H2 n2 dus => by
    obtain ⟨m, S2⟩ := S.nw n2
    exact ⟨l, a, us, F2, ds, P, rfl, S2, dus, hn, hG, fun v d F3 H3 n3 S3 pd dv => q v d F3 H3 (m.trans n3) S3 pd dv⟩))) hg hdb he hpl
theorem od_fdivW {i j : Int} (h0 : 0 < j) (h1 : j < 100000) : OpD X (binaryOp .FloorDiv) (.int i) (.int j) (.int (i / j)) := ⟨_, op_fdivW, fun F H x y Q s dx dy q => by
  cases dx; cases dy
  exact ⟨i, j, rfl, rfl, wide_div (b := 64) h0 (by omega) (by decide) (by decide), q _ F H (Nw.refl s) (.int _)⟩⟩
/-- name[j] = an int, the name's list not known -/
theorem ws_setI {xs : List V} {j : Nat} {n : Int} {p2 : Pos} (s : Same F H) (hl : H l = some (.lst xs)) (hj : j < xs.length) (he : YE X e σ F (.int n)) (hi : YE X i' σ F (.int (j : Int))) (ho : ∀ (H : Hp) (Q : VK), Q (.ref l) H → WE X o σ H Q) (k : ∀ H', Same H H' → D.nx σ (upd H' l (.lst (xs.set j (.int n)))))
    (ha : ∀ v, assign (.Subscript o i' p2) X.env v = (do
      let ov ← holding [v] (eval o X.env)
      let iv ← holding [v, ov] (eval i' X.env)
      standAt p2
      holding [v, ov, iv] (setItem ov iv v)
      release [v, ov, iv] []) := by intro _; rfl) (hs : swapsWithSole [.Subscript o i' p2] e pos.line X.env = pure false := by rfl) (hw : swappedStores [.Subscript o i' p2] e X.env = pure none := by rfl) (h1 : (assignEach [.Subscript o i' p2] X.env).map (·.2) = [assign (.Subscript o i' p2) X.env] := by rfl) : WS X (.Assign [.Subscript o i' p2] e pos) D σ H :=
  ws_sub (he H s _ fun u F2 H2 n2 du => ho H2 _ (hi.mono n2.f H2 n2.i _ fun z F3 H3 n3 dz => by
    cases dp_int du
    refine ⟨l, xs, j, j, rfl, dp_int dz, n3.h l _ (n2.h l _ hl), ?_, k H3 (n2.h.trans n3.h)⟩
    unfold ixN
    rw [if_pos (by omega), if_pos (by omega)]
    simp)) ha hs hw h1
end
section
variable {P : Program} {w : World} {K : PySem.W.Frag} {mg : Str → Option Value} {base : Heap}
def isN (m : Nat) (d : PyData) : Prop := ∃ v : Nat, v < m ∧ d = .int v
theorem isN_mod {i : Int} {m : Nat} (h : 0 < m) : isN m (.int (i % (m : Int))) := by
  have h1 := Int.emod_nonneg i (show (m : Int) ≠ 0 by omega)
  have h2 := Int.emod_lt_of_pos i (show (0 : Int) < m by omega)
  refine ⟨(i % (m : Int)).toNat, by omega, ?_⟩
  rw [Int.toNat_of_nonneg h1]
def gTaken (ds : List PyData) (P : PyData → Prop) : Prop := ∃ m : Nat, ds = [.int m] ∧ 0 < m ∧ m < 1000 ∧ P = isN m
abbrev nTaken : List Str := ["_law_row", "_law_many", "_law_found", "_law_cell"]
theorem scTaken : FnScope nTaken ["_law_row", "_law_many"] (defScope (topS 40)) := ⟨rfl, rfl, rfl, by decide +kernel, rfl, by decide +kernel, by decide +kernel⟩
theorem ok_taken (T : Top K mg) : Dn P w K mg base "_law_taken" 1 L2.CX0 ["_law_row", "_law_many"] (PuS K 1 gTaken) := by
  refine dn0 T.aTaken scTaken pus_len fun f cdv A outer s H vs Q E hr h => ?_
  obtain ⟨l, a, us, F, ds, P, rfl, S, hA, hn, ⟨m, rfl, h0, h1, rfl⟩, q⟩ := h
  obtain ⟨v1, rfl, d1⟩ := dpA1 hA
  cases dp_int d1
  obtain ⟨ns, hS⟩ := S.q
  have fl := S.no
  obtain ⟨i, seed, rest, hl, hi⟩ := S.v
  have dl : ∀ (xs : List V) (ds : List PyData), DpAll K F xs ds → Dp K (upd F l (.lst xs)) (.ref l) (.list ds) := fun xs ds h => .lst (sqL_of upd_same) (DpAx h (same_new fl))
  have dsc : Dp K F (.ref a) (.list (ns.map PyData.int)) := .lst hS (ints_dpA ns)
  have D0 : ∀ i s r : Int, Dp K (upd F l (.lst [.ref a, .int i, .int s, .int r])) (.ref l) (.list [.list (ns.map PyData.int), .int i, .int s, .int r]) := fun i s r => dl _ _ (.cons dsc (.cons (.int _) (.cons (.int _) (.cons (.int _) .nil))))
  have sI : ∀ {H' : Hp} {o : HO}, Same (er l H) (er l H') → H' l = some o → Same (upd F l o) H' := fun e1 e2 => same_add ((S.s.trans e1).trans er_in) e2
  -- the end, from any state
  have fin : ∀ (H' : Hp) (v : V) (d : PyData), Same (er l H) (er l H') → Sv l a H' → isN m d → Dp K F v d → Q v H' := fun H' v d e1 sv hd dv => by
    have n : NwE l F H F H' := Nw.hop S.s e1
    exact q v d F H' n (S.nx n sv) hd dv
  have hm : (0 : Int) < (m : Int) := by omega
  have hm2 : (m : Int) < 100000 := by omega
  have vint : ∀ {G : Hp} {v : V} {i : Int}, Dp K G v (.int i) → Dp K F v (.int i) := fun h => sc_int h
  refine wss_cons (ws_ifY (yt_cmp od_gt (ye_ixL (yv 0 (D0 i seed rest)) ye_int (d := .int rest) (by rfl)) ye_int) (sI (Same.refl _) hl) (fun hk H1 s1 => ?_) (fun hk H1 s1 => wss_nil ?_))
  · have e1 : Same (er l H) (er l H1) := er_same s1
    have hl1 := s1 l _ hl
    refine wss_cons (ws_set 2 scTaken.nd (YE.w (ye_bin (od_mod hm) (ye_callTy cd_int T.int PyProof.Rows.boot_int (ya_cons (ye_ixL (yv 0 (D0 i seed rest)) ye_int (d := .int rest) (by rfl)) ya_nil)) (yv 1 (Dp.int _))) (sI e1 hl1) fun u F2 H2 n2 du => ?_))
    have e2 : Same (er l H) (er l H2) := e1.trans (er_same n2.h)
    have hl2 := n2.h l _ hl1
    refine wss_cons (ws_setI (j := 3) (sI e2 hl2) hl2 (Nat.le_of_ble_eq_true rfl) (ye_bin (od_fdivW hm hm2) (ye_ixL (yv 0 (D0 i seed rest)) ye_int (d := .int rest) (by rfl)) (yv 1 (Dp.int _))) ye_int (fun H' Q z => we_var 0 z) fun H3 s3 => ?_)
    have e3 : Same (er l H) (er l (upd H3 l (.lst [.ref a, .int i, .int seed, .int (rest / (m : Int))]))) := by
      rw [er_upd]
      exact e2.trans (er_same s3)
    exact wss_one (ws_ret (we_var 2 (fin _ u _ e3 ⟨i, seed, rest / (m : Int), upd_same, hi⟩ (isN_mod h0) (vint du))))
  · have e1 : Same (er l H) (er l H1) := er_same s1
    have hl1 := s1 l _ hl
    refine wss_cons (ws_setI (j := 1) (sI e1 hl1) hl1 (Nat.le_of_ble_eq_true rfl) (ye_bin od_add (ye_ixL (yv 0 (D0 i seed rest)) ye_int (d := .int i) (by rfl)) ye_int) ye_int (fun H' Q z => we_var 0 z) fun H2 s2 => ?_)
    have e2 : Same (er l H) (er l (upd H2 l (.lst [.ref a, .int (i + 1), .int seed, .int rest]))) := by
      rw [er_upd]
      exact e1.trans (er_same s2)
    have hl2 : (upd H2 l (.lst [.ref a, .int (i + 1), .int seed, .int rest])) l = some (.lst [.ref a, .int (i + 1), .int seed, .int rest]) := upd_same
    change WSs _ _ _ _ (upd H2 l (.lst [.ref a, .int (i + 1), .int seed, .int rest]))
    generalize upd H2 l (.lst [.ref a, .int (i + 1), .int seed, .int rest]) = H2' at e2 hl2
    refine wss_cons (ws_ifY (yt_cmp od_gt (ye_ixL (yv 0 (D0 (i + 1) seed rest)) ye_int (d := .int (i + 1)) (by rfl)) (ye_callB cd_lenL T.len PySem.boot_len (ya_cons (ye_ixL (yv 0 (D0 (i + 1) seed rest)) ye_int (d := .list (ns.map PyData.int)) (by rfl)) ya_nil))) (sI e2 hl2) (fun hk2 H3 s3 => ?_) (fun hk2 H3 s3 => wss_nil ?_))
    · have e3 := e2.trans (er_same s3)
      have hl3 := s3 l _ hl2
      refine wss_cons (ws_setI (j := 2) (sI e3 hl3) hl3 (Nat.le_of_ble_eq_true rfl) (ye_bin (od_mod (j := 2147483647) (by decide)) (ye_callTy cd_int T.int PyProof.Rows.boot_int (ya_cons (ye_bin od_add (ye_bin (od_mulR (j := 48271) (by decide)) (ye_ixL (yv 0 (D0 (i + 1) seed rest)) ye_int (d := .int seed) (by rfl)) ye_int) ye_int) ya_nil)) ye_int) ye_int (fun H' Q z => we_var 0 z) fun H4 s4 => ?_)
      have e4 : ∀ x : Int, Same (er l H) (er l (upd H4 l (.lst [.ref a, .int (i + 1), .int x, .int rest]))) := fun x => by
        rw [er_upd]
        exact e3.trans (er_same s4)
      have hl4 : ∀ x : Int, (upd H4 l (.lst [.ref a, .int (i + 1), .int x, .int rest])) l = some (.lst [.ref a, .int (i + 1), .int x, .int rest]) := fun x => upd_same
      have hw := e4 ((seed * 48271 + 11) % 2147483647)
      have hw2 := hl4 ((seed * 48271 + 11) % 2147483647)
      refine wss_one (ws_ret (YE.w (ye_bin (od_mod hm) (ye_callTy cd_int T.int PyProof.Rows.boot_int (ya_cons (ye_bin (od_fdivW (j := 7) (by decide) (by decide)) (ye_ixL (yv 0 (D0 (i + 1) ((seed * 48271 + 11) % 2147483647) rest)) ye_int (d := .int ((seed * 48271 + 11) % 2147483647)) (by rfl)) ye_int) ya_nil)) (yv 1 (Dp.int _))) (sI hw hw2) fun u F5 H5 n5 du => ?_))
      exact fin _ u _ (hw.trans (er_same n5.h)) ⟨_, _, _, n5.h l _ hw2, by omega⟩ (isN_mod h0) (vint du)
    · have e3 := e2.trans (er_same s3)
      have hl3 := s3 l _ hl2
      have hlt : i.toNat < ns.length := by
        have := of_decide_eq_false hk2
        rw [List.length_map] at this
        omega
      refine wss_cons (ws_set 3 scTaken.nd (YE.w (d := .int ns[i.toNat]) (ye_ixL (ye_ixL (yv 0 (D0 (i + 1) seed rest)) ye_int (d := .list (ns.map PyData.int)) (by rfl)) (ye_bin od_sub (ye_ixL (yv 0 (D0 (i + 1) seed rest)) ye_int (d := .int (i + 1)) (by rfl)) ye_int) (atN (j := i.toNat) (by omega) (by rw [List.getElem?_map, List.getElem?_eq_getElem hlt]; rfl))) (sI e3 hl3) fun u F4 H4 n4 du => ?_))
      cases dp_int du
      have e4 := e3.trans (er_same n4.h)
      have hl4 := n4.h l _ hl3
      generalize ns[i.toNat] = c
      refine wss_cons (ws_setI (j := 2) (sI e4 hl4) hl4 (Nat.le_of_ble_eq_true rfl) (ye_bin (od_mod (j := 2147483647) (by decide)) (ye_callTy cd_int T.int PyProof.Rows.boot_int (ya_cons (ye_bin od_add (ye_bin od_add (ye_bin (od_mulR (j := 48271) (by decide)) (ye_ixL (yv 0 (D0 (i + 1) seed rest)) ye_int (d := .int seed) (by rfl)) ye_int) (yv 3 (Dp.int _))) ye_int) ya_nil)) ye_int) ye_int (fun H' Q z => we_var 0 z) fun H5 s5 => ?_)
      generalize (seed * 48271 + c + 11) % 2147483647 = x
      have e5 : Same (er l H) (er l (upd H5 l (.lst [.ref a, .int (i + 1), .int x, .int rest]))) := by
        rw [er_upd]
        exact e4.trans (er_same s5)
      have hl5 : (upd H5 l (.lst [.ref a, .int (i + 1), .int x, .int rest])) l = some (.lst [.ref a, .int (i + 1), .int x, .int rest]) := upd_same
      change WSs _ _ _ _ (upd H5 l (.lst [.ref a, .int (i + 1), .int x, .int rest]))
      generalize upd H5 l (.lst [.ref a, .int (i + 1), .int x, .int rest]) = H5' at e5 hl5
      refine wss_cons (ws_mono (fun σ' H' => σ' = [some (.ref l), some (.int m), none, some (.int c)] ∧ Same (er l H) (er l H') ∧ ∃ r : Int, H' l = some (.lst [.ref a, .int (i + 1), .int x, .int r])) ?_ ?_)
      · refine ws_ifY (yt_cmp od_ge (yv 3 (Dp.int _)) (ye_bin (od_pow (by decide)) ye_int ye_int)) (sI e5 hl5) (fun hk3 H6 s6 => ?_) (fun hk3 H6 s6 => wss_nil ⟨rfl, e5.trans (er_same s6), rest, s6 l _ hl5⟩)
        refine wss_one (ws_setI (j := 3) (sI (e5.trans (er_same s6)) (s6 l _ hl5)) (s6 l _ hl5) (Nat.le_of_ble_eq_true rfl) (ye_bin (od_fdivW hm hm2) (yv 3 (Dp.int _)) (yv 1 (Dp.int _))) ye_int (fun H' Q z => we_var 0 z) fun H7 s7 => ⟨rfl, ?_, c / (m : Int), upd_same⟩)
        rw [er_upd]
        exact (e5.trans (er_same s6)).trans (er_same s7)
      · rintro σ' H6 ⟨rfl, e6, r, hl6⟩
        refine wss_one (ws_ret (YE.w (ye_bin (od_mod hm) (ye_callTy cd_int T.int PyProof.Rows.boot_int (ya_cons (yv 3 (Dp.int _)) ya_nil)) (yv 1 (Dp.int _))) (sI e6 hl6) fun u F7 H7 n7 du => ?_))
        exact fin _ u _ (e6.trans (er_same n7.h)) ⟨_, _, _, n7.h l _ hl6, by omega⟩ (isN_mod h0) (vint du)
end
end K10
set_option Elab.async false
set_option linter.all false
set_option maxRecDepth 100000
set_option maxHeartbeats 4000000
/-! Draws inside expressions, loops; a dict of pairs; _law_pick. -/
namespace K10
open PySem PySem.Spec PyProof.Rows L2

section
variable {X : Cx} {σ : L2.St} {F F' H H' : Hp} {l a : Addr} {e o b c i' tg iter : Expr} {es : List Expr} {body : List Stmt} {pos : Pos} {d d1 : PyData} {ds : List PyData} {P P' : PyData → Prop} {D : Ends} {k : Bool}
/-- an expression whose value is of P -/
def YP (X : Cx) (e : Expr) (σ : L2.St) (F : Hp) (P : PyData → Prop) : Prop := ∀ H, Same F H → ∀ Q : VK, (∀ v d F' H', Nw F H F' H' → P d → Dp X.K F' v d → Q v H') → WE X e σ H Q
theorem YP.w {Q : VK} (h : YP X e σ F P) (s : Same F H) (q : ∀ v d F' H', Nw F H F' H' → P d → Dp X.K F' v d → Q v H') : WE X e σ H Q := h H s Q q
theorem wa_one {e : Expr} {Q : List V → Hp → Prop} (h : WE X e σ H fun x H1 => Q [x] H1) (hs : starEach [e] X.env = (false, eval e X.env) :: starEach [] X.env := by rfl) : WA X [e] σ H Q := go_a (pa_cons pe_we pa_nil hs) h
theorem wa_two {e e2 : Expr} {Q : List V → Hp → Prop} (h : WE X e σ H fun x H1 => WE X e2 σ H1 fun y H2 => Q [x, y] H2) (hs : starEach [e, e2] X.env = (false, eval e X.env) :: starEach [e2] X.env := by rfl) (hs2 : starEach [e2] X.env = (false, eval e2 X.env) :: starEach [] X.env := by rfl) : WA X [e, e2] σ H Q :=
  go_a (pa_cons pe_we (pa_cons pe_we pa_nil hs2) hs) h
theorem yp_tuple {Pd : List PyData → Prop} {p : Pos} (hm : X.mg "tuple" = none) (h : YP X e σ F fun d => ∃ ds, d = .list ds ∧ Pd ds) (hg : Gl X "tuple" := by rfl) (he : starEach [e] X.env = (false, eval e X.env) :: starEach [] X.env := by rfl) (hpl : (backTo pos (starEach [] X.env)).any (·.1) = false := by rfl) : YP X (.Call (.Name "tuple" p) [e] [] pos) σ F fun d => ∃ ds, d = .tuple ds ∧ Pd ds := fun H s Q q => by
  refine go_e (pe_callTy call_tuple_of hg hm PyProof.Rows.boot_tuple pa_wa (by decide) (by decide) he hpl) (wa_one (h H s _ fun v d F2 H2 n2 pd dv => ?_) he)
  obtain ⟨ds, rfl, pd⟩ := pd
  obtain ⟨p, xs, rfl, hS, hA⟩ := dp_lst dv
  exact ⟨p, xs, rfl, .inl ⟨sqL_at (n2.i p) hS, fun t ht => q _ _ _ _ (n2.trans (Nw.put n2.i ht)) ⟨ds, rfl, pd⟩ (.tup (sqT_of upd_same) (DpAx hA (same_new (n2.i.free ht))))⟩⟩
theorem yp_pair {k0 : Nat} (ha : YE X e σ F d) (hb : YP X b σ F P) (he : starEach [e, b] X.env = (false, eval e X.env) :: starEach [b] X.env := by rfl) (he2 : starEach [b] X.env = (false, eval b X.env) :: starEach [] X.env := by rfl) : YP X (.Tuple [e, b] k0 pos) σ F fun x => ∃ d2, x = .tuple [d, d2] ∧ P d2 := fun H s Q q =>
  go_e (pe_tup pa_wa) (wa_two (ha H s _ fun x F2 H2 n2 dx => hb H2 ((s.trans n2.h)) _ fun y d2 F3 H3 n3 pd dy => ⟨by show 2 ≤ sizeLine; decide, fun p hp => by
    obtain ⟨n3', s3⟩ := n3.up n2.f n2.i
    have nn := n2.trans n3'
    have s4 := same_new (o := .tup [x, y]) (nn.i.free hp)
    exact q _ _ _ _ (nn.trans (Nw.put nn.i hp)) ⟨d2, rfl, pd⟩ (.tup (sqT_of upd_same) (.cons (Dpx dx (n3'.f.trans s4)) (.cons (Dpx dy (s3.trans s4)) .nil)))⟩) he he2)
/-! draws -/
theorem se_add {i : Int} {m : Nat} (ha : YE X e σ F (.int i)) (hb : ∀ F', Same F F' → SE X l a b σ F' (isN m)) : SE X l a (.BinOp e .Add b pos) σ F (fun d => ∃ v : Nat, v < m ∧ d = .int (i + v)) := fun H S Q q =>
  go_e (pe_op op_add pe_we pe_we) (ha H S.i _ fun x F2 H2 n2 dx => by
    obtain ⟨m2, S2⟩ := S.nw n2
    refine hb F2 n2.f H2 S2 _ fun y d F3 H3 n3 S3 pd dy => ?_
    obtain ⟨v, hv, rfl⟩ := pd
    exact ⟨i, v, dp_int dx, dp_int dy, q _ _ F3 H3 (m2.trans n3) S3 ⟨v, hv, rfl⟩ (.int _)⟩)
theorem se_if (hc : YT X c σ F k) (ha : k = true → SE X l a e σ F P) (hb : k = false → SE X l a b σ F P) : SE X l a (.IfExp c e b pos) σ F P := fun H S Q q => by
  refine go_e (pe_ifExp pt_wt pe_we pe_we) (hc H S.i _ fun H2 s2 => ?_)
  obtain ⟨m, S2⟩ := S.nw (Nw.hop S.i s2)
  cases k with
  | true => exact iteT (ha rfl H2 S2 Q fun v d F3 H3 n3 S3 pd dv => q v d F3 H3 (m.trans n3) S3 pd dv)
  | false => exact iteF (hb rfl H2 S2 Q fun v d F3 H3 n3 S3 pd dv => q v d F3 H3 (m.trans n3) S3 pd dv)
theorem SE.imp (h : SE X l a e σ F P) (f : ∀ d, P d → P' d) : SE X l a e σ F P' := fun H S Q q => h H S Q fun v d F2 H2 n S2 pd dv => q v d F2 H2 n S2 (f d pd) dv
/-- a for loop over any iterator -/
theorem ws_forG {wi : TI} (hp : PassesOwn (model X.prog X.w) X.A X.env X.xe) (hc : X.calm = true) (hi : PI X tg iter wi)
    (hw : wi σ H fun J H0 => ∃ (F0 : Hp) (ds : List PyData), Good X.K J F0 ds ∧ ∃ Pv : Nat → Hp → L2.St → Hp → Prop, Pv 0 F0 σ H0 ∧ (∀ i F1 σ1 H1, Pv i F1 σ1 H1 → Same F0 F1 ∧ Same F1 H1) ∧
      (∀ i d F1 σ1 H1 F2 H2 u, ds[i]? = some d → Pv i F1 σ1 H1 → Nw F1 H1 F2 H2 → Dp X.K F2 u d → WG X tg u σ1 H2 fun σ2 H3 => WSs X body { D with nx := fun σ' H' => ∃ F', Pv (i + 1) F' σ' H', ct := fun σ' H' => ∃ F', Pv (i + 1) F' σ' H', bk := D.nx } σ2 H3) ∧
      ∀ F1 σ1 H1, Pv ds.length F1 σ1 H1 → D.nx σ1 H1)
    (hs : ∀ x, foldedSetIterable iter X.env x = pure x := by intro _; rfl) (hm : ∀ R R' : It → Hp → Prop, (∀ J H, R J H → R' J H) → wi σ H R → wi σ H R') : WS X (.For tg iter body [] pos) D σ H := by
  refine go_s (ps_for hp hc hi pg_wg pss_ws hs) (hm _ _ (fun J H0 h => ?_) hw)
  obtain ⟨F0, ds, g, Pv, p0, ps, pt, pd⟩ := h
  refine ⟨fun i m σ1 H1 => m = ds.length - i ∧ i ≤ ds.length ∧ ∃ F1, Pv i F1 σ1 H1, ⟨ds.length, by simp, Nat.zero_le _, F0, p0⟩, ?_⟩
  rintro i m σ1 H1 ⟨rfl, hi', F1, p⟩
  obtain ⟨s1, s2⟩ := ps i F1 σ1 H1 p
  by_cases hlt : i < ds.length
  · refine .inr ⟨g.go H1 (s1.trans s2) i hlt, fun σ' H' => ∃ F', Pv (i + 1) F' σ' H', fun σ' H' q => ⟨ds.length - (i + 1), by omega, rfl, hlt, q⟩, fun u H2 y => ?_⟩
    obtain ⟨F2, d, n2, hd, dv⟩ := g.yld F1 H1 s1 s2 i u H2 hlt y
    exact pt i d F1 σ1 H1 F2 H2 u hd p n2 dv
  · have e : i = ds.length := by omega
    subst e
    exact .inl ⟨g.stop H1 (s1.trans s2), pd F1 σ1 H1 p⟩
end
theorem we_mono {X : Cx} {e : Expr} {σ : L2.St} {H : Hp} {Q Q' : VK} (h : WE X e σ H Q) (k : ∀ v H', Q v H' → Q' v H') : WE X e σ H Q' := fun pins s I =>
  wpAny_mono (h pins s I) (fun u s' z => by
    obtain ⟨v, H', J, r, q⟩ := z
    exact ⟨v, H', J, r, k v H' q⟩) fun _ _ z => z
theorem wa_mono {X : Cx} {es : List Expr} {σ : L2.St} {H : Hp} {Q Q' : List V → Hp → Prop} (h : WA X es σ H Q) (k : ∀ v H', Q v H' → Q' v H') : WA X es σ H Q' := fun pos pins s I =>
  wpAny_mono (h pos pins s I) (fun u s' z => by
    obtain ⟨v, H', J, r, q⟩ := z
    exact ⟨v, H', J, r, k v H' q⟩) fun _ _ z => z
/-! ### a dict of pairs -/
def eD (e : (Nat × Nat) × Nat) : List Key × V := ([.inl (e.1.1 : Int), .inl (e.1.2 : Int)], .int (e.2 : Int))
def putN (m : List ((Nat × Nat) × Nat)) (k : Nat × Nat) (n : Nat) : List ((Nat × Nat) × Nat) := if k ∈ m.map (·.1) then m.map (fun e => if e.1 = k then (k, n) else e) else m ++ [(k, n)]
theorem eD_key {e : (Nat × Nat) × Nat} {k : Nat × Nat} : (eD e).1 = [.inl (k.1 : Int), .inl (k.2 : Int)] ↔ e.1 = k := by
  obtain ⟨⟨x, y⟩, n⟩ := e
  obtain ⟨z, w⟩ := k
  unfold eD
  simp
  omega
theorem putN_eq (m : List ((Nat × Nat) × Nat)) (k : Nat × Nat) (n : Nat) : putK (m.map eD) [.inl (k.1 : Int), .inl (k.2 : Int)] (.int (n : Int)) = (putN m k n).map eD := by
  unfold putK putN
  have e1 : ((m.map eD).any fun kv => decide (kv.1 = [.inl (k.1 : Int), .inl (k.2 : Int)])) = true ↔ k ∈ m.map (·.1) := by
    rw [List.any_map, List.any_eq_true, List.mem_map]
    constructor
    · rintro ⟨e, he, z⟩
      exact ⟨e, he, eD_key.mp (of_decide_eq_true z)⟩
    · rintro ⟨e, he, z⟩
      exact ⟨e, he, decide_eq_true (eD_key.mpr z)⟩
  by_cases h : k ∈ m.map (·.1)
  · rw [if_pos (e1.mpr h), if_pos h, List.map_map, List.map_map]
    refine List.map_congr_left fun e _ => ?_
    show (if (eD e).1 = [.inl (k.1 : Int), .inl (k.2 : Int)] then ((eD e).1, V.int (n : Int)) else eD e) = eD (if e.1 = k then (k, n) else e)
    by_cases z : e.1 = k
    · rw [if_pos (eD_key.mpr z), if_pos z, eD_key.mpr z]
      rfl
    · rw [if_neg (fun y => z (eD_key.mp y)), if_neg z]
  · rw [if_neg (fun y => h (e1.mp y)), if_neg h, List.map_append]
    rfl
structure Ro (many : Nat) (m : List ((Nat × Nat) × Nat)) : Prop where
  nd : (m.map (·.1)).Nodup
  ok : ∀ e ∈ m, e.1.1 < e.1.2 ∧ e.1.2 < many ∧ 1 ≤ e.2 ∧ e.2 ≤ 9
theorem putN_keys {m : List ((Nat × Nat) × Nat)} {k : Nat × Nat} {n : Nat} : (putN m k n).map (·.1) = if k ∈ m.map (·.1) then m.map (·.1) else m.map (·.1) ++ [k] := by
  unfold putN
  by_cases h : k ∈ m.map (·.1)
  · rw [if_pos h, if_pos h, List.map_map]
    refine List.map_congr_left fun e _ => ?_
    show (if e.1 = k then (k, n) else e).1 = e.1
    by_cases z : e.1 = k
    · rw [if_pos z, z]
    · rw [if_neg z]
  · rw [if_neg h, if_neg h, List.map_append]
    rfl
theorem putN_len {m : List ((Nat × Nat) × Nat)} {k : Nat × Nat} {n : Nat} : (putN m k n).length ≤ m.length + 1 := by
  unfold putN
  split
  · rw [List.length_map]; omega
  · rw [List.length_append, List.length_singleton]
    exact Nat.le_refl _
theorem Ro.put {many : Nat} {m : List ((Nat × Nat) × Nat)} (R : Ro many m) {k : Nat × Nat} {n : Nat} (h : k.1 < k.2 ∧ k.2 < many ∧ 1 ≤ n ∧ n ≤ 9) : Ro many (putN m k n) := by
  refine ⟨?_, fun e he => ?_⟩
  · rw [putN_keys]
    split
    · exact R.nd
    · rename_i hk
      refine List.nodup_append.mpr ⟨R.nd, by simp, fun x hx y hy => ?_⟩
      rw [List.mem_singleton] at hy
      subst hy
      exact fun z => hk (z ▸ hx)
  · unfold putN at he
    split at he
    · obtain ⟨e', he', z⟩ := List.mem_map.mp he
      by_cases q : e'.1 = k
      · rw [if_pos q] at z
        rw [← z]
        exact h
      · rw [if_neg q] at z
        rw [← z]
        exact R.ok e' he'
    · rcases List.mem_append.mp he with z | z
      · exact R.ok e z
      · rw [List.mem_singleton.mp z]
        exact h
theorem putN_has {m : List ((Nat × Nat) × Nat)} {k q : Nat × Nat} {n : Nat} (h : q = k ∨ q ∈ m.map (·.1)) : q ∈ (putN m k n).map (·.1) := by
  rw [putN_keys]
  split
  · rcases h with z | z
    · rw [z]; assumption
    · exact z
  · rcases h with z | z
    · exact List.mem_append_right _ (by rw [z]; exact List.mem_cons_self)
    · exact List.mem_append_left _ z
/-- the length of a rod, by its places -/
def valN (m : List ((Nat × Nat) × Nat)) (k : Nat × Nat) : Option Nat := (m.find? fun e => decide (e.1 = k)).map (·.2)
theorem valN_eq (m : List ((Nat × Nat) × Nat)) (k : Nat × Nat) : valV (m.map eD) [.inl (k.1 : Int), .inl (k.2 : Int)] = (valN m k).map fun (n : Nat) => V.int (n : Int) := by
  unfold valV valN
  rw [List.find?_map, Option.map_map, Option.map_map]
  have e : (fun e => decide ((eD e).1 = [.inl (k.1 : Int), .inl (k.2 : Int)])) = fun e : (Nat × Nat) × Nat => decide (e.1 = k) := by
    funext e
    exact decide_eq_decide.mpr eD_key
  show Option.map _ (List.find? (fun e => decide ((eD e).1 = [.inl (k.1 : Int), .inl (k.2 : Int)])) m) = _
  rw [e]
  rfl
theorem valN_mem {m : List ((Nat × Nat) × Nat)} {k : Nat × Nat} (h : k ∈ m.map (·.1)) : ∃ n, valN m k = some n ∧ (k, n) ∈ m := by
  obtain ⟨e, he, z⟩ := List.mem_map.mp h
  unfold valN
  cases q : m.find? (fun e => decide (e.1 = k)) with
  | none =>
    have := List.find?_eq_none.mp q e he
    exact absurd (decide_eq_true z) this
  | some e' =>
    have h1 := List.find?_some q
    have h2 := List.mem_of_find?_eq_some q
    refine ⟨e'.2, rfl, ?_⟩
    have : e'.1 = k := of_decide_eq_true h1
    rw [← this]
    exact h2
section
variable {P : Program} {w : World} {K : PySem.W.Frag} {mg : Str → Option Value} {base : Heap}
def gPick (ds : List PyData) (P : PyData → Prop) : Prop := ∃ xs : List PyData, ds = [.list xs] ∧ 0 < xs.length ∧ xs.length < 1000 ∧ P = fun d => d ∈ xs
abbrev nPick : List Str := ["_law_row", "_law_things"]
theorem scPick : FnScope nPick ["_law_row", "_law_things"] (defScope (topS 42)) := ⟨rfl, rfl, rfl, by decide +kernel, rfl, by decide +kernel, by decide +kernel⟩
theorem ok_pick (T : Top K mg) : Dn P w K mg base "_law_pick" 2 L2.CX0 ["_law_row", "_law_things"] (PuS K 1 gPick) := by
  have D1 := ok_taken (P := P) (w := w) (base := base) T
  refine dn0 T.aPick scPick pus_len fun f cdv A outer s H vs Q E hr h => ?_
  obtain ⟨l, a, us, F, ds, P, rfl, S, hA, hn, ⟨xs, rfl, h0, h1, rfl⟩, q⟩ := h
  obtain ⟨v1, rfl, d1⟩ := dpA1 hA
  refine wss_one (ws_ret (go_e (pe_ix ix_list pe_we pe_we (by exact fun _ _ => rfl)) (YE.w (yv 1 d1) S.i fun x F2 H2 n2 dx => ?_)))
  obtain ⟨m2, S2⟩ := S.nw n2
  refine SE.w (l := l) (a := a) (se_call D1 hr (fun H Q z => we_var 0 z) (ya_cons (ye_callB cd_lenL T.len PySem.boot_len (ya_cons (yv 1 (Dpx d1 n2.f)) ya_nil)) ya_nil) ⟨xs.length, rfl, h0, h1, rfl⟩) S2 fun y d F3 H3 n3 S3 pd dy => ?_
  obtain ⟨v, hv, rfl⟩ := pd
  have dx3 := Dpx dx n3.f
  obtain ⟨p, ys, rfl, hS, hA⟩ := dp_lst dx3
  obtain ⟨u, hu, du⟩ := dpA_get hA (List.getElem?_eq_getElem hv)
  exact ⟨p, ys, v, u, rfl, dp_int dy, sqL_at (S3.i p) hS, atI_nat hu, q u xs[v] F3 H3 (m2.trans n3) S3 (List.getElem_mem hv) du⟩
end
end K10
set_option Elab.async false
set_option linter.all false
set_option maxRecDepth 100000
set_option maxHeartbeats 4000000
/-! _law_net: a drawn net is a net. -/
namespace K10
open PySem PySem.Spec PyProof.Rows L2

theorem wg_twoV {X : Cx} {σ : L2.St} {H : Hp} {x y : Str} {p : Addr} {v1 v2 : V} {pos : Pos} (i j : Nat) {Q : L2.St → Hp → Prop} {px py : Pos} {kt : Nat} (hc : X.calm = true) (nd : X.N.Nodup) (hp : H p = some (.tup [v1, v2])) (h : Q ((σ.set i (some v1)).set j (some v2)) H)
    (hi : X.N[i]? = some x := by rfl) (hj : X.N[j]? = some y := by rfl) (hx : Loc X.env.scope x := by first | exact Or.inl rfl | exact Or.inr rfl) (hy : Loc X.env.scope y := by first | exact Or.inl rfl | exact Or.inr rfl)
    (hf : X.fn x = true ∨ X.env.scope.names.lookup x = some .local := by first | exact .inl rfl | exact .inr rfl | assumption) (hf2 : X.fn y = true ∨ X.env.scope.names.lookup y = some .local := by first | exact .inl rfl | exact .inr rfl | assumption)
    (hn : (assignEach [.Name x px, .Name y py] X.env).length = 2 := by rfl) (hst : (assignEach [.Name x px, .Name y py] X.env).findIdx? (·.1) = none := by rfl) (h1 : (assignEach [.Name x px, .Name y py] X.env).map (·.2) = assign (.Name x px) X.env :: (assignEach [.Name y py] X.env).map (·.2) := by rfl)
    (h2 : (assignEach [.Name y py] X.env).map (·.2) = assign (.Name y py) X.env :: (assignEach [] X.env).map (·.2) := by rfl) : WG X (.Tuple [.Name x px, .Name y py] kt pos) (.ref p) σ H Q :=
  go_g (pg_tup hc (pgs_cons (pg_name nd hi hx hf) (pgs_cons (pg_name nd hj hy hf2) pgs_nil h2) h1) hn hst) ⟨p, _, rfl, sqT_of hp, rfl, _, _, rfl, _, _, rfl, rfl, h⟩
/-- the dict of rods while it is written -/
structure Dst (K : PySem.W.Frag) (l a dd : Addr) (F H F1 H1 : Hp) (m : List ((Nat × Nat) × Nat)) : Prop where
  n : NwE l F H F1 H1
  S : Stt K l a F1 H1
  hd : H dd = none
  fd : F1 dd = none
  e : H1 dd = some (.dT (m.map eD))
section
variable {K : PySem.W.Frag} {l a dd : Addr} {F H F1 H1 F2 H2 : Hp} {m m' : List ((Nat × Nat) × Nat)}
theorem Dst.ne (D : Dst K l a dd F H F1 H1 m) : dd ≠ l := fun z => by
  obtain ⟨i, s, r, e, _⟩ := D.S.v
  have e' := D.e
  rw [z, e] at e'
  cases e'
theorem Dst.er (D : Dst K l a dd F H F1 H1 m) : K10.er l H1 dd = some (.dT (m.map eD)) := by rw [er_ne D.ne]; exact D.e
theorem Dst.nx (D : Dst K l a dd F H F1 H1 m) (n : NwE l F1 H1 F2 H2) (S : Stt K l a F2 H2) : Dst K l a dd F H F2 H2 m := by
  have e := D.er
  refine ⟨D.n.trans n, S, D.hd, n.out D.fd (by rw [e]; exact fun z => nomatch z), ?_⟩
  have := n.h dd _ e
  rw [er_ne D.ne] at this
  exact this
theorem Dst.nw (D : Dst K l a dd F H F1 H1 m) (n : Nw F1 H1 F2 H2) : Dst K l a dd F H F2 H2 m := by
  obtain ⟨a1, a2⟩ := D.S.nw n
  exact D.nx a1 a2
theorem er_upd_ne {b l : Addr} {o : HO} {H : Hp} (h : b ≠ l) : K10.er l (upd H b o) = upd (K10.er l H) b o := by
  funext c
  by_cases hc : c = l
  · subst hc
    rw [er_at, upd_ne (fun z => h z.symm), er_at]
  · rw [er_ne hc]
    by_cases hb : c = b
    · subst hb
      rw [upd_same, upd_same]
    · rw [upd_ne hb, upd_ne hb, er_ne hc]
theorem Dst.put (D : Dst K l a dd F H F1 H1 m) : Dst K l a dd F H F1 (upd H1 dd (.dT (m'.map eD))) m' := by
  have ne := D.ne
  have nn : NwE l F H F1 (upd H1 dd (.dT (m'.map eD))) := by
    show Nw F (K10.er l H) F1 (K10.er l (upd H1 dd (.dT (m'.map eD))))
    rw [er_upd_ne ne]
    exact D.n.mut (by rw [er_ne ne]; exact D.hd) D.fd
  refine ⟨nn, ⟨nn.i, ?_, D.S.q⟩, D.hd, D.fd, upd_same⟩
  obtain ⟨i, s, r, e, z⟩ := D.S.v
  exact ⟨i, s, r, by rw [upd_ne (fun z => ne z.symm)]; exact e, z⟩
end
theorem bd2 {x y : Nat} (hx : x < 64) (hy : y < 64) : TS.Bd 64 [(x : Int), (y : Int)] := fun m hm => by
  rcases List.mem_cons.mp hm with e | e
  · rw [e]; omega
  · rw [List.mem_singleton.mp e]; omega
theorem code2 (x y : Int) : TS.code 64 [x, y] = x * 64 + y := by
  show x * 64 ^ 1 + (y * 64 ^ 0 + 0) = _
  omega
def ksN (m : List ((Nat × Nat) × Nat)) : List (List Int) := m.map fun e => [(e.1.1 : Int), (e.1.2 : Int)]
def rodOf (m : List ((Nat × Nat) × Nat)) (q : Addr × List Int) : Rod := ⟨(q.2.getD 0 0).toNat, (q.2.getD 1 0).toNat, (valN m ((q.2.getD 0 0).toNat, (q.2.getD 1 0).toNat)).getD 0⟩
structure RodsOk (many : Nat) (m : List ((Nat × Nat) × Nat)) (rods : List Rod) : Prop where
  len : rods.length = m.length
  rod : ∀ r ∈ rods, r.a < r.b ∧ r.b < many ∧ 1 ≤ r.l ∧ r.l ≤ 9
  asc : rods.Pairwise rodLt
  has : ∀ k ∈ m.map (·.1), ∃ r ∈ rods, r.a = k.1 ∧ r.b = k.2
theorem ps_each {m : List ((Nat × Nat) × Nat)} {ps : List (Addr × List Int)} (perm : (ps.map (·.2)).Perm (ksN m)) {q : Addr × List Int} (hq : q ∈ ps) : ∃ k : Nat × Nat, k ∈ m.map (·.1) ∧ q.2 = [(k.1 : Int), (k.2 : Int)] := by
  have h := perm.mem_iff.mp (List.mem_map.mpr ⟨q, hq, rfl⟩)
  obtain ⟨e, he, z⟩ := List.mem_map.mp h
  exact ⟨e.1, List.mem_map.mpr ⟨e, he, rfl⟩, z.symm⟩
theorem rodOf_eq {m : List ((Nat × Nat) × Nat)} {q : Addr × List Int} {k : Nat × Nat} {n : Nat} (e : q.2 = [(k.1 : Int), (k.2 : Int)]) (h : valN m k = some n) : rodOf m q = ⟨k.1, k.2, n⟩ := by
  unfold rodOf
  rw [e]
  show (⟨((k.1 : Int)).toNat, ((k.2 : Int)).toNat, (valN m (((k.1 : Int)).toNat, ((k.2 : Int)).toNat)).getD 0⟩ : Rod) = _
  rw [Int.toNat_natCast, Int.toNat_natCast, h]
  rfl
theorem rodsOk_of {many : Nat} {m : List ((Nat × Nat) × Nat)} (R : Ro many m) {ps : List (Addr × List Int)} (h64 : many ≤ 64) (perm : (ps.map (·.2)).Perm (ksN m)) (srt : ps.Pairwise fun q r => TS.code 64 q.2 ≤ TS.code 64 r.2) : RodsOk many m (ps.map (rodOf m)) := by
  have len : ps.length = m.length := by
    have := perm.length_eq
    rw [List.length_map] at this
    unfold ksN at this
    rw [List.length_map] at this
    exact this
  refine ⟨by rw [List.length_map, len], fun r hr => ?_, ?_, fun k hk => ?_⟩
  · obtain ⟨q, hq, rfl⟩ := List.mem_map.mp hr
    obtain ⟨k, hk, e⟩ := ps_each perm hq
    obtain ⟨n, hn, hm⟩ := valN_mem hk
    rw [rodOf_eq e hn]
    exact R.ok _ hm
  · rw [List.pairwise_map]
    have nd : (ps.map (·.2)).Nodup := by
      refine perm.nodup_iff.mpr ?_
      unfold ksN
      have e : (m.map fun e => [(e.1.1 : Int), (e.1.2 : Int)]) = (m.map (·.1)).map fun k => [(k.1 : Int), (k.2 : Int)] := by rw [List.map_map]; rfl
      rw [e]
      refine List.Pairwise.map _ (fun x y h z => h ?_) R.nd
      obtain ⟨x1, x2⟩ := x
      obtain ⟨y1, y2⟩ := y
      simp at z
      have h1 : x1 = y1 := by omega
      have h2 : x2 = y2 := by omega
      rw [h1, h2]
    have nd2 : ps.Pairwise fun q r => q.2 ≠ r.2 := List.pairwise_map.mp nd
    refine (srt.and nd2).imp_of_mem fun {q r} hq hr h => ?_
    obtain ⟨k, hk, e⟩ := ps_each perm hq
    obtain ⟨k', hk', e'⟩ := ps_each perm hr
    obtain ⟨n, hn, hm⟩ := valN_mem hk
    obtain ⟨n', hn', hm'⟩ := valN_mem hk'
    obtain ⟨h1, h2⟩ := h
    rw [e, e', code2, code2] at h1
    rw [rodOf_eq e hn, rodOf_eq e' hn']
    have o1 := R.ok _ hm
    have o2 := R.ok _ hm'
    show k.1 < k'.1 ∨ (k.1 = k'.1 ∧ k.2 < k'.2)
    by_cases z : k.1 = k'.1
    · refine .inr ⟨z, ?_⟩
      have : k.2 ≠ k'.2 := fun y => h2 (by rw [e, e', z, y])
      simp only at o1 o2
      omega
    · simp only at o1 o2
      omega
  · have hk' : [(k.1 : Int), (k.2 : Int)] ∈ ps.map (·.2) := by
      refine perm.mem_iff.mpr ?_
      obtain ⟨e, he, z⟩ := List.mem_map.mp hk
      exact List.mem_map.mpr ⟨e, he, by rw [z]⟩
    obtain ⟨q, hq, e⟩ := List.mem_map.mp hk'
    obtain ⟨n, hn, hm⟩ := valN_mem hk
    exact ⟨rodOf m q, List.mem_map.mpr ⟨q, hq, rfl⟩, by rw [rodOf_eq e hn], by rw [rodOf_eq e hn]⟩
/-- dropped again: what was known of F alone -/
def drp (F F' : Hp) (p : Addr) (as : List Addr) : Hp := fun b => if (b = p ∨ b ∈ as) ∧ F b = none then none else F' b
section
variable {F H H2 F' H' : Hp} {p : Addr} {as : List Addr}
theorem lrn_up (s : Same F H2) : Same F (lrn F H2 p as) := fun b o e => by
  unfold lrn
  split
  · exact s b o e
  · exact e
theorem lrn_in (s : Same F H2) : Same (lrn F H2 p as) H2 := fun b o e => by
  unfold lrn at e
  split at e
  · exact e
  · exact s b o e
theorem drp_nw (s : Same F H) (s2 : Same H H2) (n : Nw (lrn F H2 p as) H2 F' H') : Nw F H (drp F F' p as) H' := by
  refine ⟨s2.trans n.h, fun b o e => ?_, fun b o e => ?_, fun b q => ?_⟩
  · unfold drp
    rw [if_neg (fun z => by rw [z.2] at e; cases e)]
    exact n.f b o (lrn_up (s.trans s2) b o e)
  · unfold drp at e
    split at e
    · cases e
    · exact n.i b o e
  · unfold drp at q
    split at q
    · exact absurd rfl q
    · rename_i hc
      rcases n.n b q with z | z
      · unfold lrn at z
        split at z
        · rename_i hb
          exact .inl fun y => hc ⟨hb, y⟩
        · exact .inl z
      · exact .inr (s2.free z)
theorem drp_dp {K : PySem.W.Frag} (n : Nw (lrn F H2 p as) H2 F' H') (hp : ∃ xs, H2 p = some (.lst xs)) (ha : ∀ b ∈ as, ∃ x y : Int, H2 b = some (.tup [.int x, .int y])) : ∀ {rods : List Rod} {vs : List V}, DpAll K F' vs (rods.map rodD) → DpAll K (drp F F' p as) vs (rods.map rodD)
  | [], _, h => by
    cases h
    exact .nil
  | r :: rods, _, h => by
    cases h with
    | cons h1 h2 =>
      refine .cons ?_ (drp_dp n hp ha h2)
      obtain ⟨t, xs, rfl, hS, hA⟩ := dp_tup h1
      have e := dpA_ints (ns := [(r.a : Int), (r.b : Int), (r.l : Int)]) hA
      subst e
      have keep : ∀ o, F' t = some o → (o = .tup [.int r.a, .int r.b, .int r.l] ∨ ∃ u, o = .frz u (.tup [.int r.a, .int r.b, .int r.l])) → drp F F' p as t = some o := fun o e1 e2 => by
        unfold drp
        rw [if_neg]
        · exact e1
        · rintro ⟨z, _⟩
          have e3 := n.i t o e1
          rcases z with z | z
          · obtain ⟨xs, hx⟩ := hp
            have := n.h p _ hx
            rw [← z, e3] at this
            rcases e2 with y | ⟨u, y⟩ <;> rw [y] at this <;> cases this
          · obtain ⟨x, y, hx⟩ := ha t z
            have := n.h t _ hx
            rw [e3] at this
            rcases e2 with y' | ⟨u, y'⟩ <;> rw [y'] at this <;> cases this
      refine .tup ?_ (ints_dpA [(r.a : Int), (r.b : Int), (r.l : Int)])
      rcases hS with (z | ⟨o, z⟩) | z
      · exact .inl (.inl (keep _ z (.inl rfl)))
      · exact .inl (.inr ⟨o, keep _ z (.inr ⟨o, rfl⟩)⟩)
      · exact .inr z
end
section
variable {X : Cx} {σ : L2.St} {F H : Hp} {o i1 i2 : Expr} {pos p2 : Pos}
/-- d[(x, y)], a dict of pairs -/
theorem ye_dget {dd : Addr} {m : List ((Nat × Nat) × Nat)} {x y n : Nat} {k0 : Nat} (hu : X.A.units + 1 < cLine) (ho : ∀ (H : Hp) (Q : VK), Q (.ref dd) H → WE X o σ H Q) (hk : YA X [i1, i2] σ F [.int (x : Int), .int (y : Int)]) (hF : F dd = some (.dT (m.map eD))) (hv : valN m (x, y) = some n) (hs : NoSl (.Tuple [i1, i2] k0 p2) := by exact fun _ _ => rfl) : YE X (.Subscript o (.Tuple [i1, i2] k0 p2) pos) σ F (.int (n : Int)) := fun H s Q q =>
  go_e (pe_dget hu pe_we pe_we hs) (ho H _ (go_e (pe_tup pa_wa) (hk H s _ fun xs F2 H2 n2 dxs => ⟨by rw [dpA_len dxs]; show 2 ≤ sizeLine; decide, fun p hp => by
    have exs : xs = [(x : Int), (y : Int)].map V.int := dpA_ints (ns := [(x : Int), (y : Int)]) dxs
    subst exs
    have ne : dd ≠ p := fun z => by
      rw [← z, n2.h dd _ (s dd _ hF)] at hp
      cases hp
    refine ⟨dd, .int n, rfl, ?_, q _ F2 _ (n2.trans (Nw.hop n2.i (same_new hp))) (.int _)⟩
    have g := DGet.t (H := upd H2 p (.tup ([(x : Int), (y : Int)].map V.int))) (a := dd) (b := p) (kvs := m.map eD) (k := [.inl (x : Int), .inl (y : Int)]) (by rw [upd_ne ne]; exact n2.h dd _ (s dd _ hF)) upd_same
    rw [valN_eq m (x, y), hv] at g
    exact g⟩)))
end
def gRod (m : List ((Nat × Nat) × Nat)) : PyData → PyData
  | .tuple [.int x, .int y] => .tuple [.int x, .int y, .int ((valN m (x.toNat, y.toNat)).getD 0 : Nat)]
  | _ => .none
section
variable {X : Cx} {σ : L2.St} {o elt tg : Expr} {p pos pos' : Pos} {scope : Scope} {own : List (Str × Nat)}
theorem yp_rods {Fd : Hp} {dd : Addr} {m : List ((Nat × Nat) × Nat)} {many : Nat} (hc : X.calm = true) (nd : X.N.Nodup) (hm : X.mg "sorted" = none) (ho : ∀ (H : Hp) (Q : VK), Q (.ref dd) H → WE X o σ H Q) (hd : Fd dd = some (.dT (m.map eD))) (R : Ro many m) (h64 : many ≤ 64) (hl : m.length < 64) (ok : BlkOk X.N X.env.scope scope own)
    (ht : ∀ (k : Nat × Nat) (n : Nat), k ∈ m.map (·.1) → valN m k = some n → Tn X scope tg σ (own.map (·.2)) Fd (.tuple [.int (k.1 : Int), .int (k.2 : Int)]) fun Y σ2 F1 => YE Y elt σ2 F1 (.tuple [.int (k.1 : Int), .int (k.2 : Int), .int (n : Int)]))
    (hg : Gl X "sorted" := by rfl) (he : starEach [o] X.env = (false, eval o X.env) :: starEach [] X.env := by rfl) (hpl : (backTo pos (starEach [] X.env)).any (·.1) = false := by rfl) (hs : ∀ x, foldedSetIterable (.Call (.Name "sorted" p) [o] [] pos) X.env x = pure x := by intro _; rfl) :
    YP X (.ListComp elt [⟨tg, .Call (.Name "sorted" p) [o] [] pos, [], 0⟩] scope pos') σ Fd (fun d => ∃ ds, d = .list ds ∧ ∃ rods, ds = rods.map rodD ∧ RodsOk many m rods) := fun H s Q q => by
  refine go_e (pe_lc (g := fun v σ H Q => ∀ s0 H0 C cl fp, WG (bk X scope s0 H0 C cl fp) tg v σ H Q) (te := fun σ H Q => ∀ s0 H0 C cl fp, WE (bk X scope s0 H0 C cl fp) elt σ H Q) hc nd (pi_list pe_we) ok
    (fun s0 H0 C cl fp => ⟨fun pins s σ H v u Q I r h => h s0 H0 C cl fp pins s u I r⟩) (fun _ _ _ _ _ => pts_nil) (fun s0 H0 C cl fp => ⟨fun pins s σ H Q I h => h s0 H0 C cl fp pins s I⟩) hs) ?_
  have hmap : (m.map eD).map (·.1) = (ksN m).map (fun k => k.map Sum.inl) := by
    unfold ksN
    rw [List.map_map, List.map_map]
    rfl
  refine go_e (pe_callB (cr_sortDT (d := 2) (B := 64) (by decide) hc) hg hm PyProof.Rows.boot_sorted pa_wa (by decide) (by decide) he hpl) (wa_one (ho H _ ⟨dd, m.map eD, ksN m, rfl, .inl (s dd _ hd), hmap, by unfold ksN; rw [List.length_map]; exact hl, fun k hk => ?_, fun ps p' perm srt keys hp => ⟨p', rfl, ⟨_, SqL.of upd_same⟩, ?_⟩⟩) he)
  · obtain ⟨e, he, rfl⟩ := List.mem_map.mp hk
    have := R.ok e he
    exact ⟨rfl, bd2 (by omega) (by omega)⟩
  · have s2 : Same H (upd H p' (.lst (ps.map fun q => V.ref q.1))) := same_new hp
    have at2 : (upd H p' (.lst (ps.map fun q => V.ref q.1))) p' = some (.lst (ps.map fun q => V.ref q.1)) := upd_same
    generalize upd H p' (.lst (ps.map fun q => V.ref q.1)) = H2 at s2 at2
    have keys2 : ∀ q ∈ ps, H2 q.1 = some (.tup (q.2.map V.int)) := fun q hq => s2 _ _ (keys q hq)
    have sF : Same Fd H2 := s.trans s2
    have isT : ∀ b ∈ ps.map (·.1), ∃ x y : Int, H2 b = some (.tup [.int x, .int y]) := fun b hb => by
      obtain ⟨q, hq, rfl⟩ := List.mem_map.mp hb
      obtain ⟨k, _, e⟩ := ps_each perm hq
      exact ⟨k.1, k.2, by rw [keys2 q hq, e]; rfl⟩
    have dpAll : ∀ l : List (Addr × List Int), (∀ q ∈ l, q ∈ ps) → DpAll X.K (lrn Fd H2 p' (ps.map (·.1))) (l.map fun q => V.ref q.1) (l.map fun q => PyData.tuple (q.2.map PyData.int)) := by
      intro l
      induction l with
      | nil => intro _; exact .nil
      | cons q l ih =>
        intro hl
        have hq := hl q List.mem_cons_self
        refine .cons (.tup (sqT_of (xs := q.2.map V.int) ?_) (ints_dpA _)) (ih fun r hr => hl r (List.mem_cons_of_mem _ hr))
        unfold lrn
        rw [if_pos (.inr (List.mem_map.mpr ⟨q, hq, rfl⟩))]
        exact keys2 q hq
    have gd : Good X.K (Itl X.K p') (lrn Fd H2 p' (ps.map (·.1))) (ps.map fun q => PyData.tuple (q.2.map PyData.int)) := good_list (xs := ps.map fun q => V.ref q.1) (sqL_of (by unfold lrn; rw [if_pos (.inl rfl)]; exact at2)) (dpAll ps fun q hq => hq)
    have len : ps.length = m.length := by
      have := perm.length_eq
      rw [List.length_map] at this
      unfold ksN at this
      rw [List.length_map] at this
      exact this
    have rk := rodsOk_of R h64 perm srt
    refine lc_read (wi := fun _ H R => R (Itl X.K p') H) (gg := fun v σ H Q => ∀ s0 H0 C cl fp, WG (bk X scope s0 H0 C cl fp) tg v σ H Q) (tt := tYes) (te := fun σ H Q => ∀ s0 H0 C cl fp, WE (bk X scope s0 H0 C cl fp) elt σ H Q) (vs := own.map (·.2)) (σ := σ) (F := lrn Fd H2 p' (ps.map (·.1))) (ds := ps.map fun q => PyData.tuple (q.2.map PyData.int)) (fun H s R hR => hR _ _ _ (Nw.refl s) gd) (by rw [List.length_map]; omega) (fun _ => true) (gRod m) (fun d F1 H1 u hd s1 s2 du => ?_) H2 (lrn_in sF) Q fun pL xs F' H' n hpL fpL epL dA => ?_
    · obtain ⟨r, hr, rfl⟩ := List.mem_map.mp hd
      obtain ⟨k, hk, e⟩ := ps_each perm hr
      obtain ⟨n, hn, hmem⟩ := valN_mem hk
      rw [e] at du
      obtain ⟨σ2, t1, t2, t3⟩ := ht k n hk hn F1 H1 u ((lrn_up sF).trans s1) s2 du
      refine ⟨σ2, fun Q z s0 H0 C cl fp => t1 s0 H0 C cl fp Q z, t2, fun Q z => z H1 (Same.refl _), fun _ H3 s3 Q z s0 H0 C cl fp => t3 s0 H0 C cl fp H3 s3 Q ?_⟩
      have eg : gRod m (PyData.tuple (r.2.map PyData.int)) = .tuple [.int (k.1 : Int), .int (k.2 : Int), .int (n : Int)] := by
        rw [e]
        show PyData.tuple [.int (k.1 : Int), .int (k.2 : Int), .int ((valN m (((k.1 : Int)).toNat, ((k.2 : Int)).toNat)).getD 0 : Nat)] = _
        rw [Int.toNat_natCast, Int.toNat_natCast, hn]
        rfl
      rw [eg] at z
      exact z
    · have eR : ((ps.map fun q => PyData.tuple (q.2.map PyData.int)).filter fun _ => true).map (gRod m) = (ps.map (rodOf m)).map rodD := by
        rw [List.filter_eq_self.mpr (fun _ _ => rfl), List.map_map, List.map_map]
        refine List.map_congr_left fun r hr => ?_
        obtain ⟨k, hk, e⟩ := ps_each perm hr
        obtain ⟨n, hn, hmem⟩ := valN_mem hk
        show gRod m (PyData.tuple (r.2.map PyData.int)) = rodD (rodOf m r)
        rw [rodOf_eq e hn, e]
        show PyData.tuple [.int (k.1 : Int), .int (k.2 : Int), .int ((valN m (((k.1 : Int)).toNat, ((k.2 : Int)).toNat)).getD 0 : Nat)] = _
        rw [Int.toNat_natCast, Int.toNat_natCast, hn]
        rfl
      rw [eR] at dA
      have n2 := drp_nw s s2 n
      have fL : drp Fd F' p' (ps.map (·.1)) pL = none := by
        unfold drp
        split
        · rfl
        · exact fpL
      exact q _ _ _ H' (n2.learn (s2.free hpL) epL fL) ⟨_, rfl, _, rfl, rk⟩ (.lst (sqL_of upd_same) (DpAx (drp_dp n ⟨_, at2⟩ isT dA) (same_new fL)))
end
section
variable {P : Program} {w : World} {K : PySem.W.Frag} {mg : Str → Option Value} {base : Heap}
def gLNet (ds : List PyData) (P : PyData → Prop) : Prop := ∃ lg : Nat, ds = [.int 4, .int lg] ∧ 1 ≤ lg ∧ lg ≤ 9 ∧ P = fun d => ∃ N : Net, N.Ok ∧ d = netD N
abbrev nLNet : List Str := ["_law_row", "_law_most", "_law_long", "_law_many", "_law_rods", "_law_place", "_law_turn", "_law_one", "_law_other"]
theorem scLNet : FnScope nLNet ["_law_row", "_law_most", "_law_long"] (defScope (topS 41)) := ⟨rfl, rfl, rfl, by decide +kernel, rfl, by decide +kernel, by decide +kernel⟩
theorem ok_lnet (T : Top K mg) : Dn P w K mg base "_law_net" 2 L2.CX0 ["_law_row", "_law_most", "_law_long"] (PuS K 2 gLNet) := by
  have D1 := ok_taken (P := P) (w := w) (base := base) T
  refine dn0 T.aLNet scLNet pus_len fun f cdv A outer s H vs Q E hr h => ?_
  obtain ⟨l, a, us, F, ds, P, rfl, S, hA, hn, ⟨lg, rfl, lg1, lg9, rfl⟩, q⟩ := h
  obtain ⟨v1, v2, rfl, h1, h2⟩ := dpA2 hA
  cases dp_int h1
  cases dp_int h2
  -- many, rods = 1 + .., {}
  refine wss_cons (ws_asg (go_e (pe_tup pa_wa) (wa_two (SE.w (l := l) (a := a) (se_add ye_int fun F' s' => se_call D1 hr (fun H Q z => we_var 0 z) (ya_cons (yv 1 (Dp.int _)) ya_nil) ⟨4, rfl, by decide, by decide, rfl⟩) S fun v d F2 H2 n2 S2 pd dv => go_e pe_dnewT fun dd hdd => ⟨by show 2 ≤ sizeLine; decide, fun tp htp => wg_twoV 3 4 rfl scLNet.nd upd_same ?_⟩))))
  obtain ⟨v0, hv0, rfl⟩ := pd
  cases dp_int dv
  obtain ⟨many, hmany⟩ : ∃ many : Nat, many = 1 + v0 := ⟨_, rfl⟩
  have e1 : ((1 : Int) + (v0 : Int)) = (many : Int) := by omega
  rw [e1]
  have neD : dd ≠ l := fun z => by rw [z] at hdd; exact S2.v.ne hdd
  have D2 : Dst K l a dd F H F2 (upd H2 dd (.dT (([] : List ((Nat × Nat) × Nat)).map eD))) [] := by
    obtain ⟨b1, b2⟩ := S2.nw (Nw.hop S2.i (same_new hdd))
    have hd0 : H dd = none := by
      have z : er l H2 dd = none := by rw [er_ne neD]; exact hdd
      have z2 := n2.h.free z
      rw [er_ne neD] at z2
      exact z2
    exact ⟨n2.trans b1, b2, hd0, S2.i.free hdd, upd_same⟩
  change WSs _ _ _ _ (upd (upd H2 dd (.dT (([] : List ((Nat × Nat) × Nat)).map eD))) tp (.tup [.int (many : Int), .ref dd]))
  have D2 := D2.nw (Nw.hop D2.S.i (same_new (o := .tup [.int (many : Int), .ref dd]) htp))
  generalize upd (upd H2 dd (.dT (([] : List ((Nat × Nat) × Nat)).map eD))) tp (.tup [.int (many : Int), .ref dd]) = H2' at D2
  -- the rods that join the places
  refine wss_cons (ws_for PassesOwn.never rfl (src_rng2 (lo := 1) (n := many - 1) T.range (ya_cons ye_int (ya_cons (YE.is (yv 3 (Dp.int _)) (congrArg PyData.int (by omega))) ya_nil)) (by omega)) D2.S.i fun F3 H3 n3 => ⟨fun i F4 σ4 H4 => Same F3 F4 ∧ (∃ m, Dst K l a dd F H F4 H4 m ∧ Ro many m ∧ m.length ≤ i ∧ ∀ p, 1 ≤ p → p < 1 + i → ∃ x, (x, p) ∈ m.map (·.1)) ∧ ∃ b c e g, σ4 = [some (.ref l), some (.int 4), some (.int lg), some (.int many), some (.ref dd), b, c, e, g],
    ⟨Same.refl _, ⟨[], D2.nw n3, ⟨List.nodup_nil, fun e he => by cases he⟩, Nat.le_refl _, fun p h1 h2 => by omega⟩, none, none, none, none, rfl⟩, ?_, ?_, ?_⟩)
  · rintro i F4 σ4 H4 ⟨s, ⟨m, D4, _⟩, _⟩
    exact ⟨s, D4.S.i⟩
  · rintro i d F4 σ4 H4 F5 H5 u hd ⟨sf, ⟨m, D4, R4, len4, has4⟩, b, c, e, g, rfl⟩ n5 du
    have hi : i < many - 1 := by
      have := (List.getElem?_eq_some_iff.mp hd).1
      rw [rngD_len] at this
      exact this
    rw [rngD_at hi] at hd
    cases hd
    cases dp_int du
    have D5 := D4.nw n5
    refine wg_name 5 scLNet.nd ?_
    refine wss_one (go_s (ps_dput (by have := hr.units; exact Nat.lt_of_le_of_lt (Nat.add_le_add_left (by decide) _) this) pe_we pe_we pe_we rfl) ?_)
    refine SE.w (l := l) (a := a) (se_add ye_int fun F' s' => se_call D1 hr (fun H Q z => we_var 0 z) (ya_cons (yv 2 (Dp.int _)) ya_nil) ⟨lg, rfl, by omega, by omega, rfl⟩) D5.S fun v d F6 H6 n6 S6 pd dv => ?_
    obtain ⟨v6, hv6, rfl⟩ := pd
    cases dp_int dv
    refine we_var 4 ?_
    refine go_e (pe_tup pa_wa) (wa_two (SE.w (l := l) (a := a) (se_call D1 hr (fun H Q z => we_var 0 z) (ya_cons (yv 5 (Dp.int _)) ya_nil) ⟨1 + i, rfl, by omega, by omega, rfl⟩) S6 fun v d F7 H7 n7 S7 pd dv => we_var 5 ⟨by show 2 ≤ sizeLine; decide, fun p hp => ?_⟩))
    obtain ⟨v7, hv7, rfl⟩ := pd
    cases dp_int dv
    have D7 := (D5.nx n6 S6).nx n7 S7
    have D8 := D7.nw (Nw.hop D7.S.i (same_new (o := .tup [.int v7, .int ((1 + i : Nat) : Int)]) hp))
    have ex : (1 : Int) + (v6 : Int) = ((1 + v6 : Nat) : Int) := by omega
    refine ⟨dd, _, rfl, DPut.t (kvs := m.map eD) (k := [.inl (v7 : Int), .inl ((1 + i : Nat) : Int)]) D8.e upd_same (by rw [List.length_map]; exact Nat.lt_of_lt_of_le (show m.length < 64 by omega) (by decide)), F7, ?_⟩
    rw [ex, putN_eq m (v7, 1 + i) (1 + v6)]
    refine ⟨((sf.trans n5.f).trans n6.f).trans n7.f, ⟨putN m (v7, 1 + i) (1 + v6), D8.put, R4.put ⟨hv7, by show 1 + i < many; omega, by omega, by omega⟩, ?_, fun p hp1 hp2 => ?_⟩, _, _, _, _, rfl⟩
    · have := putN_len (m := m) (k := (v7, 1 + i)) (n := 1 + v6)
      omega
    · by_cases z : p = 1 + i
      · exact ⟨v7, putN_has (.inl (by rw [z]))⟩
      · obtain ⟨x, hx⟩ := has4 p hp1 (by omega)
        exact ⟨x, putN_has (.inr hx)⟩
  rintro F4 σ4 H4 ⟨sf4, ⟨m4, D4, R4, len4, has4⟩, b4, c4, e4, g4, rfl⟩
  rw [rngD_len] at len4 has4
  -- some rods more
  refine wss_cons (ws_forG PassesOwn.never rfl (pi_range1 rfl T.range pa_wa rfl) ?_ (hm := fun R R' hR h => wa_mono h fun vs H' ⟨n, z1, z2, z3, z4⟩ => ⟨n, z1, z2, z3, hR _ _ z4⟩))
  refine wa_one (SE.w (l := l) (a := a) (se_if (P := isN 4) (yt_cmp od_gt (yv 3 (Dp.int _)) ye_int) (fun _ => se_call D1 hr (fun H Q z => we_var 0 z) (ya_cons ye_int ya_nil) ⟨4, rfl, by decide, by decide, rfl⟩) (fun _ => (YE.se ye_int).imp fun d z => ⟨0, by decide, z⟩)) D4.S fun v d F5 H5 n5 S5 pd dv => ?_)
  obtain ⟨t, ht, rfl⟩ := pd
  cases dp_int dv
  refine ⟨(t : Int), rfl, by omega, by omega, F5, rngD 0 t, by rw [Int.toNat_natCast]; exact good_rng, fun i F6 σ6 H6 => Same F5 F6 ∧ (∃ m, Dst K l a dd F H F6 H6 m ∧ Ro many m ∧ m.length ≤ many - 1 + i ∧ ∀ p, 1 ≤ p → p < many → ∃ x, (x, p) ∈ m.map (·.1)) ∧ ∃ b c e g, σ6 = [some (.ref l), some (.int 4), some (.int lg), some (.int many), some (.ref dd), b, c, e, g],
    ⟨Same.refl _, ⟨m4, D4.nx n5 S5, R4, by omega, fun p h1 h2 => has4 p h1 (by omega)⟩, _, _, _, _, rfl⟩, ?_, ?_, ?_⟩
  · rintro i F6 σ6 H6 ⟨s, ⟨m, D6, _⟩, _⟩
    exact ⟨s, D6.S.i⟩
  · rintro i d F6 σ6 H6 F7 H7 u hd ⟨sf, ⟨m, D6, R6, len6, has6⟩, b, c, e, g, rfl⟩ n7 du
    have hi : i < t := by
      have := (List.getElem?_eq_some_iff.mp hd).1
      rw [rngD_len] at this
      exact this
    have D7 := D6.nw n7
    refine wg_name 6 scLNet.nd ?_
    refine wss_cons (ws_par 7 8 rfl scLNet.nd (wa_two (SE.w (l := l) (a := a) (se_call D1 hr (fun H Q z => we_var 0 z) (ya_cons (yv 3 (Dp.int _)) ya_nil) ⟨many, rfl, by omega, by omega, rfl⟩) D7.S fun v d F8 H8 n8 S8 pd dv => ?_)))
    refine SE.w (l := l) (a := a) (se_call D1 hr (fun H Q z => we_var 0 z) (ya_cons (yv 3 (Dp.int _)) ya_nil) ⟨many, rfl, by omega, by omega, rfl⟩) S8 fun v' d' F9 H9 n9 S9 pd' dv' => ⟨v, v', rfl, ?_⟩
    obtain ⟨x, hx, rfl⟩ := pd
    obtain ⟨y, hy, rfl⟩ := pd'
    cases dp_int dv
    cases dp_int dv'
    have D9 := (D7.nx n8 S8).nx n9 S9
    have sf9 := ((sf.trans n7.f).trans n8.f).trans n9.f
    refine wss_one (ws_ifY (F := F9) (yt_cmp od_neI (yv 7 (Dp.int _)) (yv 8 (Dp.int _))) D9.S.i (fun hk H10 s10 => ?_) (fun hk H10 s10 => wss_nil ⟨F9, sf9, ⟨m, D9.nw (Nw.hop D9.S.i s10), R6, by omega, has6⟩, _, _, _, _, rfl⟩))
    have D10 := D9.nw (Nw.hop D9.S.i s10)
    have hxy : x ≠ y := fun z => by
      rw [z] at hk
      simp at hk
    refine wss_one (go_s (ps_dput (by have := hr.units; exact Nat.lt_of_le_of_lt (Nat.add_le_add_left (by decide) _) this) pe_we pe_we pe_we rfl) ?_)
    refine SE.w (l := l) (a := a) (se_add ye_int fun F' s' => se_call D1 hr (fun H Q z => we_var 0 z) (ya_cons (yv 2 (Dp.int _)) ya_nil) ⟨lg, rfl, by omega, by omega, rfl⟩) D10.S fun v d F11 H11 n11 S11 pd dv => ?_
    obtain ⟨v6, hv6, rfl⟩ := pd
    cases dp_int dv
    have D11 := D10.nx n11 S11
    refine we_var 4 ?_
    have ex : (1 : Int) + (v6 : Int) = ((1 + v6 : Nat) : Int) := by omega
    refine go_e (pe_tup pa_wa) (wa_two (YE.w (d := .int ((min x y : Nat) : Int)) (YE.is (ye_callB (cd_min2 rfl) T.min PyProof.Rows.boot_min (ya_cons (yv 7 (Dp.int _)) (ya_cons (yv 8 (Dp.int _)) ya_nil))) (congrArg PyData.int (min_cast x y))) D11.S.i fun v F12 H12 n12 dv => ?_))
    refine YE.w (d := .int ((max x y : Nat) : Int)) (YE.is (ye_callB (cd_max2 rfl) T.max PyProof.Rows.boot_max (ya_cons (yv 7 (Dp.int _)) (ya_cons (yv 8 (Dp.int _)) ya_nil))) (congrArg PyData.int (by split <;> omega))) n12.i fun v' F13 H13 n13 dv' => ⟨by show 2 ≤ sizeLine; decide, fun p hp => ?_⟩
    cases dp_int dv
    cases dp_int dv'
    have D13 := (D11.nw n12).nw n13
    have D14 := D13.nw (Nw.hop D13.S.i (same_new (o := .tup [.int ((min x y : Nat) : Int), .int ((max x y : Nat) : Int)]) hp))
    refine ⟨dd, _, rfl, DPut.t (kvs := m.map eD) (k := [.inl ((min x y : Nat) : Int), .inl ((max x y : Nat) : Int)]) D14.e upd_same (by rw [List.length_map]; exact Nat.lt_of_lt_of_le (show m.length < 64 by omega) (by decide)), F13, ?_⟩
    rw [ex, putN_eq m (min x y, max x y) (1 + v6)]
    refine ⟨((sf9.trans n11.f).trans n12.f).trans n13.f, ⟨putN m (min x y, max x y) (1 + v6), D14.put, R6.put ⟨by show min x y < max x y; omega, by show max x y < many; omega, by omega, by omega⟩, ?_, fun p hp1 hp2 => ?_⟩, _, _, _, _, rfl⟩
    · have := putN_len (m := m) (k := (min x y, max x y)) (n := 1 + v6)
      omega
    · obtain ⟨x', hx'⟩ := has6 p hp1 hp2
      exact ⟨x', putN_has (.inr hx')⟩
  rintro F6 σ6 H6 ⟨sf6, ⟨m, D6, R6, len6, has6⟩, b6, c6, e6, g6, rfl⟩
  rw [rngD_len] at len6
  have nD : NwE l F H (upd F6 dd (.dT (m.map eD))) H6 := D6.n.learn (by rw [er_ne D6.ne]; exact D6.hd) D6.er D6.fd
  have SD : Stt K l a (upd F6 dd (.dT (m.map eD))) H6 := S.nx nD D6.S.v
  have hF : (upd F6 dd (.dT (m.map eD))) dd = some (.dT (m.map eD)) := upd_same
  generalize upd F6 dd (.dT (m.map eD)) = Fd at nD SD hF
  refine wss_one (ws_ret (YP.w (yp_pair (d := .int (many : Int)) (yv 3 (Dp.int _)) (yp_tuple T.tuple (yp_rods (own := [("_law_one", 7), ("_law_other", 8)]) rfl scLNet.nd T.sorted (fun H Q z => we_var 4 z) hF R6 (by omega) (by omega) (blkOk_by (N := nLNet) (sc := defScope (topS 41)) (by decide +kernel)) fun k n hk hn' => ?_))) SD.i fun v d F' H' n pd dv => ?_))
  · exact tn2 7 8 rfl (fun _ _ => rfl) (fun F1 u w s du dw s0 H0 C cl fp => ye_tup (ya_cons (yv 7 du) (ya_cons (yv 8 dw) (ya_cons (ye_dget (x := k.1) (y := k.2) (by have := hr.units; exact Nat.lt_of_le_of_lt (Nat.add_le_add_left (by decide) _) this) (fun H Q z => we_var 4 z) (ya_cons (yv 7 du) (ya_cons (yv 8 dw) ya_nil)) (s dd _ hF) hn') ya_nil))))
      (fun s0 H0 C cl fp => pg_tup rfl (pgs_cons (pg_name (i := 7) scLNet.nd rfl (Or.inl rfl)) (pgs_cons (pg_name (i := 8) scLNet.nd rfl (Or.inl rfl)) pgs_nil rfl) rfl) rfl rfl)
  · obtain ⟨d2, rfl, ds, rfl, rods, rfl, rk⟩ := pd
    obtain ⟨e, S'⟩ := SD.nw n
    refine q v _ F' H' (nD.trans e) S' ⟨⟨many, rods⟩, ⟨by show 1 ≤ many; omega, by show many ≤ 4; omega, by show rods.length ≤ 28; rw [rk.len]; omega, rk.rod, rk.asc, fun p h1 h2 => ?_⟩, rfl⟩ dv
    obtain ⟨x, hx⟩ := has6 p h1 h2
    obtain ⟨r, hr, _, e2⟩ := rk.has _ hx
    exact ⟨r, hr, e2⟩
end
end K10
set_option Elab.async false
set_option linter.all false
set_option maxRecDepth 100000
set_option maxHeartbeats 4000000
/-! _law_slope, _law_told_heights. -/
namespace K10
open PySem PySem.Spec PyProof.Rows L2

/-- an object that is written while draws go on -/
structure Ost (K : PySem.W.Frag) (l a p : Addr) (F H F1 H1 : Hp) (o : HO) : Prop where
  n : NwE l F H F1 H1
  S : Stt K l a F1 H1
  ne : p ≠ l
  hd : H p = none
  fd : F1 p = none
  e : H1 p = some o
section
variable {K : PySem.W.Frag} {l a p : Addr} {F H F1 H1 F2 H2 : Hp} {o o' : HO}
theorem Ost.er (D : Ost K l a p F H F1 H1 o) : K10.er l H1 p = some o := by rw [er_ne D.ne]; exact D.e
theorem Ost.nx (D : Ost K l a p F H F1 H1 o) (n : NwE l F1 H1 F2 H2) (S : Stt K l a F2 H2) : Ost K l a p F H F2 H2 o := by
  have e := D.er
  refine ⟨D.n.trans n, S, D.ne, D.hd, n.out D.fd (by rw [e]; exact fun z => nomatch z), ?_⟩
  have := n.h p _ e
  rw [er_ne D.ne] at this
  exact this
theorem Ost.nw (D : Ost K l a p F H F1 H1 o) (n : Nw F1 H1 F2 H2) : Ost K l a p F H F2 H2 o := by
  obtain ⟨a1, a2⟩ := D.S.nw n
  exact D.nx a1 a2
theorem Ost.put (D : Ost K l a p F H F1 H1 o) : Ost K l a p F H F1 (upd H1 p o') o' := by
  have ne := D.ne
  have nn : NwE l F H F1 (upd H1 p o') := by
    show Nw F (K10.er l H) F1 (K10.er l (upd H1 p o'))
    rw [er_upd_ne ne]
    exact D.n.mut (by rw [er_ne ne]; exact D.hd) D.fd
  refine ⟨nn, ⟨nn.i, ?_, D.S.q⟩, D.ne, D.hd, D.fd, upd_same⟩
  obtain ⟨i, s, r, e, z⟩ := D.S.v
  exact ⟨i, s, r, by rw [upd_ne (fun z => ne z.symm)]; exact e, z⟩
/-- it is written no more -/
theorem Ost.out (D : Ost K l a p F H F1 H1 o) : NwE l F H (upd F1 p o) H1 := D.n.learn (by rw [er_ne D.ne]; exact D.hd) D.er D.fd
theorem Ost.outS (D : Ost K l a p F H F1 H1 o) (S0 : Stt K l a F H) : Stt K l a (upd F1 p o) H1 := S0.nx D.out D.S.v
theorem Ost.mk' (S : Stt K l a F H) (n : Nw F H F1 H1) (hp : H p = none) (fp : F1 p = none) (e : H1 p = some o) : Ost K l a p F H F1 H1 o := by
  obtain ⟨b1, b2⟩ := S.nw n
  exact ⟨b1, b2, fun z => S.v.ne (z ▸ hp), hp, fp, e⟩
theorem Ost.back {F0 H0 : Hp} (D : Ost K l a p F H F1 H1 o) (n0 : NwE l F0 H0 F H) (hp : H0 p = none) : Ost K l a p F0 H0 F1 H1 o := ⟨n0.trans D.n, D.S, D.ne, hp, D.fd, D.e⟩
end
section
variable {X : Cx} {σ : L2.St} {F F' H H' : Hp} {l a : Addr} {e o b c i' tg iter elt : Expr} {pos : Pos} {ds : List PyData}
theorem we_appendW {p : Addr} {xs : List V} {apos cpos : Pos} {Q : VK} (hl : H p = some (.lst xs)) (ho : ∀ Q : VK, Q (.ref p) H → WE X o σ H Q) (hz : xs.length < 100000) (he : WE X e σ H fun u H2 => H2 p = some (.lst xs) ∧ Q .non (upd H2 p (.lst (xs ++ [u]))))
    (hbase : attributeBase o "append" X.env (eval o X.env) = eval o X.env := by rfl) (hfew : ((backTo cpos (starEach [e] X.env)).all (fun x => !x.1) && (backToKw cpos (keywordEach [] X.env)).all (fun x => x.1.isSome) && decide ([e].length + ([] : List Keyword).length + (if ([] : List Keyword).isEmpty then 0 else 1) < 30)) = true := by rfl)
    (hline : (apos.endLine == cpos.line) = true := by rfl) (hs : starEach [e] X.env = (false, eval e X.env) :: starEach [] X.env := by rfl) (hplain : (backTo cpos (starEach [] X.env)).any (·.1) = false := by rfl) : WE X (.Call (.Attribute o "append" apos) [e] [] cpos) σ H Q :=
  go_e (pe_bm PySem.F.plainAttrs_list PySem.F.slot_list_append PySem.F.type_list_append mt_append pe_we (pa_cons pe_we pa_nil hs) hbase hfew hline hs hplain) (ho _ ⟨.inl ⟨rfl, _, SqL.of hl⟩, we_mono he fun u H2 ⟨e2, q⟩ => ⟨p, xs, u, rfl, rfl, e2, sz4l hz, q⟩⟩)
/-- a test that draws -/
def ST (X : Cx) (l a : Addr) (e : Expr) (σ : L2.St) (F : Hp) : Prop := ∀ H, Stt X.K l a F H → ∀ Q : Bool → Hp → Prop, (∀ k F' H', NwE l F H F' H' → Stt X.K l a F' H' → Q k H') → WT X e σ H Q
theorem st_eq {m : Nat} {i : Int} (h : SE X l a e σ F (isN m)) (hb : ∀ F', YE X b σ F' (.int i)) (hm : behindInMarks .Eq b = false := by first | exact nomark _ | rfl | with_unfolding_all rfl) : ST X l a (.Compare e [.Eq] [b] pos) σ F := fun H S Q q =>
  go_t (pt_cmpR op_eq pe_we pe_we hm) (h H S _ fun v d F2 H2 n2 S2 pd dv => (hb F2) H2 S2.i _ fun y F3 H3 n3 dy => by
    obtain ⟨w, hw, rfl⟩ := pd
    cases dp_int dv
    cases dp_int dy
    obtain ⟨n3', S3⟩ := S2.nw n3
    exact ⟨rfl, _, rfl, q _ F3 H3 (n2.trans n3') S3⟩)
/-- what a comprehension gives whose items draw -/
theorem lc_st {K : PySem.W.Frag} {wi : TI} {gg : TG} {te : TE} {vs : List Nat} {P : PyData → Prop} (hw : ∀ H, Same F H → ∀ R : It → Hp → Prop, (∀ J F' H', Nw F H F' H' → Good K J F' ds → R J H') → wi σ H R) (hl : ds.length ≤ 90000)
    (ht : ∀ d F1 H1 u, d ∈ ds → Stt K l a F1 H1 → Same F F1 → Dp K F1 u d → ∃ σ2, (∀ Q : L2.St → Hp → Prop, Q σ2 H1 → gg u (wipe σ vs) H1 Q) ∧ wipe σ2 vs = wipe σ vs ∧
      ∀ Q : VK, (∀ v d' F3 H3, NwE l F1 H1 F3 H3 → Stt K l a F3 H3 → P d' → Dp K F3 v d' → Q v H3) → te σ2 H1 Q)
    (H : Hp) (S : Stt K l a F H) (Q : VK) (q : ∀ p xs es F' H', Ost K l a p F H F' H' (.lst xs) → es.length = ds.length → (∀ e ∈ es, P e) → DpAll K F' xs es → Q (.ref p) H') : tLc wi gg tYes te vs σ H Q := by
  refine hw H S.i _ fun J F0 H0 n0 gd => fun Dl hD => ?_
  have O0 : Ost K l a Dl F H F0 (upd H0 Dl (.lst [])) (.lst []) := by
    have hD0 : H Dl = none := n0.h.free hD
    exact Ost.mk' S (n0.trans (Nw.hop n0.i (same_new hD))) hD0 (n0.i.free hD) upd_same
  refine ⟨fun i m H' => m = ds.length - i ∧ i ≤ ds.length ∧ ∃ F1 xs es, Ost K l a Dl F H F1 H' (.lst xs) ∧ Same F0 F1 ∧ es.length = i ∧ (∀ e ∈ es, P e) ∧ DpAll K F1 xs es,
    ⟨ds.length, by simp, Nat.zero_le _, F0, [], [], O0, Same.refl _, rfl, (fun e he => by cases he), .nil⟩, ?_⟩
  rintro i m H1 ⟨rfl, hi, F1, xs, es, O1, sf1, el, pe, a1⟩
  by_cases hlt : i < ds.length
  · refine .inr ⟨gd.go H1 (sf1.trans O1.S.i) i hlt, fun H' => ∃ F1 xs es, Ost K l a Dl F H F1 H' (.lst xs) ∧ Same F0 F1 ∧ es.length = i + 1 ∧ (∀ e ∈ es, P e) ∧ DpAll K F1 xs es, fun H' z => ⟨ds.length - (i + 1), by omega, rfl, hlt, z⟩, fun u H2 y => ?_⟩
    obtain ⟨F2, d, n2, hd, du⟩ := gd.yld F1 H1 sf1 O1.S.i i u H2 hlt y
    have O2 := O1.nw n2
    obtain ⟨σ2, hg, hwp, hte⟩ := ht d F2 H2 u (List.mem_of_getElem? hd) O2.S ((n0.f.trans sf1).trans n2.f) du
    refine hg _ ⟨hwp, ?_⟩
    change te σ2 H2 _
    refine hte _ fun v d' F4 H4 n4 S4 pd dv => ?_
    have O4 := O2.nx n4 S4
    refine ⟨xs, O4.e, ?_, F4, xs ++ [v], es ++ [d'], O4.put, (sf1.trans n2.f).trans n4.f, by rw [List.length_append, el]; rfl, fun e he => ?_, dpA_app (DpAx a1 (n2.f.trans n4.f)) (dpA_one dv)⟩
    · rw [dpA_len a1, el]
      exact sz4l (by omega)
    · rcases List.mem_append.mp he with z | z
      · exact pe e z
      · rw [List.mem_singleton.mp z]; exact pd
  · have e : i = ds.length := by omega
    subst e
    exact .inl ⟨gd.stop H1 (sf1.trans O1.S.i), q Dl xs es F1 H1 O1 el pe a1⟩
end
def Slp (N : Net) (r : List Nat) : Prop := ∀ i j, i < r.length → j < r.length → r.getD i 0 ≤ r.getD j 0 + dist N i j
theorem opt_list : ∀ {es : List PyData} {m : Nat}, (∀ e ∈ es, ∃ o : Option Nat, e = optD o ∧ ∀ h, o = some h → h ≤ m) → ∃ t : Told, es = t.map optD ∧ ∀ h, some h ∈ t → h ≤ m
  | [], m, _ => ⟨[], rfl, fun h hh => by cases hh⟩
  | e :: es, m, h => by
    obtain ⟨t, e1, e2⟩ := opt_list fun x hx => h x (List.mem_cons_of_mem _ hx)
    obtain ⟨o, z1, z2⟩ := h e List.mem_cons_self
    exact ⟨o :: t, by rw [e1, z1]; rfl, fun x hx => by
      rcases List.mem_cons.mp hx with y | y
      · exact z2 x y.symm
      · exact e2 x y⟩
theorem loI_hiI {N : Net} (ok : N.Ok) {r : List Nat} {m : Nat} (hk : r.length < N.n) (S : Slp N r) (top : ∀ x ∈ r, x ≤ m) : loI N r ≤ hiI N m r := by
  have a1 := loI_nn N r
  have key : (((loI N r).toNat : Nat) : Int) ≤ hiI N m r := le_hiI.mpr ⟨by have := loI_top (N := N) top; omega, fun j hj => ?_⟩
  · omega
  · have q : loI N r ≤ ((r.getD j 0 + dist N j r.length : Nat) : Int) := loI_le.mpr fun i hi => by
      have h1 := S i j hi hj
      have h2 := dist_tri ok hk i j
      have h3 := dist_sym ok j r.length
      omega
    omega
theorem slp_add {N : Net} (ok : N.Ok) {r : List Nat} {m h : Nat} (S : Slp N r) (h1 : loI N r ≤ h) (h2 : (h : Int) ≤ hiI N m r) : Slp N (r ++ [h]) := by
  have a := loI_le.mp h1
  have b := (le_hiI.mp h2).2
  have g1 : ∀ i, i < r.length → (r ++ [h]).getD i 0 = r.getD i 0 := fun i hi => by rw [List.getD_eq_getElem?_getD, List.getElem?_append_left hi, List.getD_eq_getElem?_getD]
  have g2 : (r ++ [h]).getD r.length 0 = h := by
    rw [List.getD_eq_getElem?_getD, List.getElem?_append_right (Nat.le_refl _), Nat.sub_self]
    rfl
  intro i j hi hj
  rw [List.length_append, List.length_singleton] at hi hj
  by_cases ei : i = r.length
  · by_cases ej : j = r.length
    · rw [ei, ej]
      omega
    · rw [ei, g2, g1 j (by omega), dist_sym ok r.length j]
      exact b j (by omega)
  · by_cases ej : j = r.length
    · rw [ej, g2, g1 i (by omega)]
      exact a i (by omega)
    · rw [g1 i (by omega), g1 j (by omega)]
      exact S i j (by omega) (by omega)
def gFl (N : Net) (r : List Nat) (k : Nat) : PyData → PyData
  | .int i => .int (((r.getD i.toNat 0 : Nat) : Int) - (dist N i.toNat k : Nat))
  | _ => .none
def gFh (N : Net) (r : List Nat) (k : Nat) : PyData → PyData
  | .int i => .int (((r.getD i.toNat 0 : Nat) : Int) + (dist N i.toNat k : Nat))
  | _ => .none
theorem fl_is {N : Net} {r : List Nat} {k : Nat} (hk : r.length = k) : [PyData.int 0] ++ (rngD 0 k).map (gFl N r k) = (0 :: (List.range r.length).map fun i => ((r.getD i 0 : Nat) : Int) - (dist N i r.length : Nat)).map PyData.int := by
  subst hk
  unfold rngD
  rw [List.map_map, List.map_cons, List.map_map]
  show _ :: _ = _ :: _
  congr 1
  refine List.map_congr_left fun i _ => ?_
  show gFl N r r.length (.int ((0 + i : Nat) : Int)) = _
  rw [Nat.zero_add]
  show PyData.int (((r.getD ((i : Int)).toNat 0 : Nat) : Int) - (dist N ((i : Int)).toNat r.length : Nat)) = _
  rw [Int.toNat_natCast]
  rfl
theorem fh_is {N : Net} {r : List Nat} {k m : Nat} (hk : r.length = k) : [PyData.int (m : Int)] ++ (rngD 0 k).map (gFh N r k) = ((m : Int) :: (List.range r.length).map fun i => ((r.getD i 0 : Nat) : Int) + (dist N i r.length : Nat)).map PyData.int := by
  subst hk
  unfold rngD
  rw [List.map_map, List.map_cons, List.map_map]
  show _ :: _ = _ :: _
  congr 1
  refine List.map_congr_left fun i _ => ?_
  show gFh N r r.length (.int ((0 + i : Nat) : Int)) = _
  rw [Nat.zero_add]
  show PyData.int (((r.getD ((i : Int)).toNat 0 : Nat) : Int) + (dist N ((i : Int)).toNat r.length : Nat)) = _
  rw [Int.toNat_natCast]
  rfl
def rwV (r : List Nat) : List V := r.map fun (h : Nat) => V.int h
theorem rwV_dp {K : PySem.W.Frag} {F : Hp} (r : List Nat) : DpAll K F (rwV r) (r.map fun (h : Nat) => PyData.int h) := by
  have h := ints_dpA (K := K) (H := F) (r.map fun (h : Nat) => (h : Int))
  rw [List.map_map, List.map_map] at h
  exact h
section
variable {X : Cx} {σ : L2.St} {F F' H H' : Hp} {l a : Addr} {e o b c i' tg iter elt : Expr} {pos : Pos} {ds : List PyData} {P : PyData → Prop} {D : Ends} {y : Str} {scope : Scope} {own : List (Str × Nat)}
theorem YE.seP {d : PyData} (h : YE X e σ F d) (p : P d) : SE X l a e σ F P := fun H S Q q => h H S.i Q fun v F2 H2 n2 dv => by
  obtain ⟨m, S2⟩ := S.nw n2
  exact q v d F2 H2 m S2 p dv
theorem ST.w {Q : Bool → Hp → Prop} (h : ST X l a e σ F) (S : Stt X.K l a F H) (q : ∀ k F' H', NwE l F H F' H' → Stt X.K l a F' H' → Q k H') : WT X e σ H Q := h H S Q q
theorem se_ifS (hc : ST X l a c σ F) (ha : ∀ F', Same F F' → SE X l a e σ F' P) (hb : ∀ F', Same F F' → SE X l a b σ F' P) : SE X l a (.IfExp c e b pos) σ F P := fun H S Q q =>
  go_e (pe_ifExp pt_wt pe_we pe_we) (hc H S _ fun k F2 H2 n2 S2 => by
    cases k with
    | true => exact iteT (ha F2 n2.f H2 S2 Q fun v d F3 H3 n3 S3 pd dv => q v d F3 H3 (n2.trans n3) S3 pd dv)
    | false => exact iteF (hb F2 n2.f H2 S2 Q fun v d F3 H3 n3 S3 pd dv => q v d F3 H3 (n2.trans n3) S3 pd dv))
theorem ws_setLcS (i : Nat) {py spos : Pos} (hc : X.calm = true) (nd : X.N.Nodup) (S : Stt X.K l a F H) (Sr : Src X tg iter σ F ds) (ok : BlkOk X.N X.env.scope scope own) (hl : ds.length ≤ 90000)
    (ht : ∀ d F1 H1 u, d ∈ ds → Stt X.K l a F1 H1 → Same F F1 → Dp X.K F1 u d → ∃ σ2, (∀ (s0 : Shared) (H0 : Hp) (C : Addr) (cl : List (Str × Addr)) (fp : List Addr) (Q : L2.St → Hp → Prop), Q σ2 H1 → WG (bk X scope s0 H0 C cl fp) tg u (wipe σ (own.map (·.2))) H1 Q) ∧ wipe σ2 (own.map (·.2)) = wipe σ (own.map (·.2)) ∧
      ∀ (s0 : Shared) (H0 : Hp) (C : Addr) (cl : List (Str × Addr)) (fp : List Addr), SE (bk X scope s0 H0 C cl fp) l a elt σ2 F1 P)
    (q : ∀ p xs es F' H', Ost X.K l a p F H F' H' (.lst xs) → es.length = ds.length → (∀ e ∈ es, P e) → DpAll X.K F' xs es → D.nx (σ.set i (some (.ref p))) H')
    (hsw : swapsWith (.ListComp elt [⟨tg, iter, [], 0⟩] scope pos) (some (.Name y py)) spos.line X.env = pure true) (hy : X.N[i]? = some y := by rfl) (hyl : X.env.scope.names.lookup y = some .local := by rfl) (hs : ∀ x, foldedSetIterable iter X.env x = pure x := by intro _; rfl) :
    WS X (.Assign [.Name y py] (.ListComp elt [⟨tg, iter, [], 0⟩] scope pos) spos) D σ H := by
  obtain ⟨wi, hi, hw⟩ := Sr
  refine go_s (ps_setLc (g := fun v σ H Q => ∀ s0 H0 C cl fp, WG (bk X scope s0 H0 C cl fp) tg v σ H Q) (te := fun σ H Q => ∀ s0 H0 C cl fp, WE (bk X scope s0 H0 C cl fp) elt σ H Q) hc nd hy hyl hsw hi ok
    (fun s0 H0 C cl fp => ⟨fun pins s σ H v u Q I r h => h s0 H0 C cl fp pins s u I r⟩) (fun _ _ _ _ _ => pts_nil) (fun s0 H0 C cl fp => ⟨fun pins s σ H Q I h => h s0 H0 C cl fp pins s I⟩) hs) ?_
  refine lc_st (P := P) hw hl (fun d F1 H1 u hd S1 s1 du => ?_) H S _ q
  obtain ⟨σ2, h1, h2, h3⟩ := ht d F1 H1 u hd S1 s1 du
  exact ⟨σ2, fun Q z s0 H0 C cl fp => h1 s0 H0 C cl fp Q z, h2, fun Q z s0 H0 C cl fp => h3 s0 H0 C cl fp H1 S1 Q z⟩
end
theorem dpA_set {K : PySem.W.Frag} {F : Hp} {v : V} {d : PyData} (h : Dp K F v d) : ∀ {j : Nat} {vs : List V} {ds : List PyData}, DpAll K F vs ds → DpAll K F (vs.set j v) (ds.set j d)
  | _, _, [], a => by cases a; exact .nil
  | 0, _, e :: es, a => by
    cases a with
    | cons a1 a2 => exact .cons h a2
  | j + 1, _, e :: es, a => by
    cases a with
    | cons a1 a2 => exact .cons a1 (dpA_set h a2)
theorem opt_some {h m : Nat} (hh : h ≤ m) : ∃ o : Option Nat, PyData.int (h : Int) = optD o ∧ ∀ x, o = some x → x ≤ m := ⟨some h, rfl, fun x e => by cases e; exact hh⟩
theorem opt_none {m : Nat} : ∃ o : Option Nat, PyData.none = optD o ∧ ∀ x, o = some x → x ≤ m := ⟨none, rfl, fun x e => by cases e⟩
section
variable {P : Program} {w : World} {K : PySem.W.Frag} {mg : Str → Option Value} {base : Heap}
def gSlope (ds : List PyData) (P : PyData → Prop) : Prop := ∃ (N : Net) (m : Nat), ds = [netD N, .int m] ∧ N.Ok ∧ m ≤ 90 ∧ P = fun d => ∃ r : List Nat, d = rwD r ∧ r.length = N.n ∧ ∀ x ∈ r, x ≤ m
abbrev nSlope : List Str := ["_law_row", "_law_net_here", "_law_most", "_law_far_here", "_law_found", "_law_place", "_law_one", "_law_least", "_law_limit"]
theorem scSlope : FnScope nSlope ["_law_row", "_law_net_here", "_law_most"] (defScope (topS 44)) := ⟨rfl, rfl, rfl, by decide +kernel, rfl, by decide +kernel, by decide +kernel⟩
theorem ok_slope (T : Top K mg) : Dn P w K mg base "_law_slope" 2 L2.CX0 ["_law_row", "_law_net_here", "_law_most"] (PuS K 2 gSlope) := by
  have D1 := ok_taken (P := P) (w := w) (base := base) T
  have D2 := ok_lfar (P := P) (w := w) (base := base) T
  refine dn0 T.aSlope scSlope pus_len fun f cdv A outer s H vs Q E hr h => ?_
  obtain ⟨l, a, us, F, ds, P, rfl, S, hA, hn, ⟨N, m, rfl, ok, hm, rfl⟩, q⟩ := h
  obtain ⟨v1, v2, rfl, h1, h2⟩ := dpA2 hA
  have n4 := ok.n4
  refine wss_cons (ws_asg (go_e (pe_tup pa_wa) (wa_two (YE.w (d := matD N.n (dist N)) (ye_call D2 hr pass0 (ya_cons (yv 1 h1) ya_nil) ⟨N, rfl, ok, rfl⟩) S.i fun vf F2 H2 n2 df => YL.w (yl_lst (ds := []) ya_nil) n2.i fun p xs F3 H3 n3 hp fp ep dA => ⟨by show 2 ≤ sizeLine; decide, fun tp htp => wg_twoV 3 4 rfl scSlope.nd upd_same ?_⟩))))
  cases dA
  have nw3 := n2.trans n3
  have O0 : Ost K l a p F H F3 (upd H3 tp (.tup [vf, .ref p])) (.lst (rwV [])) := Ost.mk' S (nw3.trans (Nw.hop n3.i (same_new htp))) (n2.h.free hp) fp (by rw [upd_ne (ne_of_none ep htp)]; exact ep)
  change WSs _ _ _ _ (upd H3 tp (.tup [vf, .ref p]))
  generalize upd H3 tp (.tup [vf, .ref p]) = H3' at O0
  have df3 := Dpx df n3.f
  have g1 := Dpx h1 nw3.f
  have g2 := Dpx h2 nw3.f
  refine wss_cons (ws_for PassesOwn.never rfl (src_rng1 (n := N.n) T.range (ya_cons (ye_ixT (yv 1 g1) ye_int (by rfl)) ya_nil) (by omega)) O0.S.i fun F4 H4 n4' => ⟨fun k F5 σ5 H5 => Same F4 F5 ∧ (∃ r : List Nat, Ost K l a p F H F5 H5 (.lst (rwV r)) ∧ r.length = k ∧ Slp N r ∧ ∀ x ∈ r, x ≤ m) ∧ ∃ b c e g, σ5 = [some (.ref l), some v1, some v2, some vf, some (.ref p), b, c, e, g],
    ⟨Same.refl _, ⟨[], O0.nw n4', rfl, fun i j hi => absurd hi (Nat.not_lt_zero _), fun x hx => by cases hx⟩, none, none, none, none, rfl⟩, ?_, ?_, ?_⟩)
  · rintro i F5 σ5 H5 ⟨sf, ⟨r, O, _⟩, _⟩
    exact ⟨sf, O.S.i⟩
  · rintro k d F5 σ5 H5 F6 H6 u hd ⟨sf, ⟨r, O5, hrk, slp, top⟩, b, c, e, g, rfl⟩ n6 du
    have hk : k < N.n := by
      have := (List.getElem?_eq_some_iff.mp hd).1
      rw [rngD_len] at this
      exact this
    rw [rngD_at hk, Nat.zero_add] at hd
    cases hd
    cases dp_int du
    have O6 := O5.nw n6
    have s36 := (n4'.f.trans sf).trans n6.f
    refine wg_name 5 scSlope.nd ?_
    -- what the list holds, known for a while
    have read : ∀ {F7 H7 : Hp}, Ost K l a p F H F7 H7 (.lst (rwV r)) → Same F7 (upd F7 p (.lst (rwV r))) ∧ Same (upd F7 p (.lst (rwV r))) H7 ∧ Dp K (upd F7 p (.lst (rwV r))) (.ref p) (.list (r.map fun (h : Nat) => PyData.int h)) := fun O => ⟨same_new O.fd, same_add O.S.i O.e, .lst (sqL_of upd_same) (DpAx (rwV_dp (F := _) r) (same_new O.fd))⟩
    obtain ⟨x1, x2, x3⟩ := read O6
    refine wss_cons (ws_set 7 scSlope.nd (YE.w (d := .int (loI N r)) (ye_callB (cd_maxL rfl (by simp)) T.max PyProof.Rows.boot_max (ya_cons (YL.ye (YL.is (yl_cat (yl_lst (ds := [.int 0]) (ya_cons ye_int ya_nil)) (yl_comp (own := [("_law_one", 6)]) rfl scSlope.nd (src_rng1 (n := k) T.range (ya_cons (yv 5 (Dp.int _)) ya_nil) (by omega)) (blkOk_by (N := nSlope) (sc := defScope (topS 44)) (by decide +kernel)) (by rw [rngD_len]; omega) (gFl N r k) fun d hd => ?_) (by rw [List.length_map, rngD_len, List.length_singleton]; omega)) (fl_is hrk))) ya_nil)) x2 fun u7 F7 H7 n7 du7 => ?_))
    · obtain ⟨i, hi, rfl⟩ := rngD_mem hd
      refine tn1 6 scSlope.nd (fun _ => rfl) (fun F1 u s du s0 H0 C cl fp => ?_) (fun _ _ _ _ _ => pg_name (i := 6) scSlope.nd rfl (Or.inl rfl))
      exact YE.is (ye_bin od_sub (ye_ixL (yv 4 (Dpx x3 s)) (yv 6 du) (atN (j := i) (by omega) (rw_at (by omega)))) (ye_mat (i := 0 + i) (yv 3 (Dpx df3 ((s36.trans x1).trans s))) (yv 6 du) (yv 5 (Dp.int _)) (by omega) hk)) (by rw [Nat.zero_add]; rfl)
    cases dp_int du7
    have O7 := O6.nw (Nw.hop O6.S.i n7.h)
    obtain ⟨y1, y2, y3⟩ := read O7
    refine wss_cons (ws_set 8 scSlope.nd (YE.w (d := .int (hiI N m r)) (ye_callB (cd_minL rfl (by simp)) T.min PyProof.Rows.boot_min (ya_cons (YL.ye (YL.is (yl_cat (yl_lst (ds := [.int m]) (ya_cons (yv 2 (Dpx g2 (s36.trans y1))) ya_nil)) (yl_comp (own := [("_law_one", 6)]) rfl scSlope.nd (src_rng1 (n := k) T.range (ya_cons (yv 5 (Dp.int _)) ya_nil) (by omega)) (blkOk_by (N := nSlope) (sc := defScope (topS 44)) (by decide +kernel)) (by rw [rngD_len]; omega) (gFh N r k) fun d hd => ?_) (by rw [List.length_map, rngD_len, List.length_singleton]; omega)) (fh_is hrk))) ya_nil)) y2 fun u8 F8 H8 n8 du8 => ?_))
    · obtain ⟨i, hi, rfl⟩ := rngD_mem hd
      refine tn1 6 scSlope.nd (fun _ => rfl) (fun F1 u s du s0 H0 C cl fp => ?_) (fun _ _ _ _ _ => pg_name (i := 6) scSlope.nd rfl (Or.inl rfl))
      exact YE.is (ye_bin od_add (ye_ixL (yv 4 (Dpx y3 s)) (yv 6 du) (atN (j := i) (by omega) (rw_at (by omega)))) (ye_mat (i := 0 + i) (yv 3 (Dpx df3 ((s36.trans y1).trans s))) (yv 6 du) (yv 5 (Dp.int _)) (by omega) hk)) (by rw [Nat.zero_add]; rfl)
    cases dp_int du8
    have O8 := O7.nw (Nw.hop O7.S.i n8.h)
    have c1 := loI_hiI ok (by omega : r.length < N.n) slp top
    have c2 := hiI_le N m r
    have c3 := loI_nn N r
    have lenR : (rwV r).length = r.length := by unfold rwV; rw [List.length_map]
    refine wss_one (ws_expr (we_appendW O8.e (fun Q z => we_var 4 z) (by omega) (SE.w (l := l) (a := a) (se_add (m := (hiI N m r - loI N r + 1).toNat) (yv 7 (Dp.int _)) fun F' s' => se_call D1 hr (fun H Q z => we_var 0 z) (ya_cons (YE.is (ye_bin od_add (ye_bin od_sub (yv 8 (Dp.int _)) (yv 7 (Dp.int _))) ye_int) (congrArg PyData.int (by omega))) ya_nil) ⟨_, rfl, by omega, by omega, rfl⟩) O8.S fun v d F9 H9 n9 S9 pd dv => ?_)))
    obtain ⟨x, hx, rfl⟩ := pd
    cases dp_int dv
    have O9 := O8.nx n9 S9
    have e1 : rwV r ++ [V.int (loI N r + (x : Int))] = rwV (r ++ [(loI N r).toNat + x]) := by
      unfold rwV
      rw [List.map_append]
      congr 2
      congr 1
      omega
    refine ⟨O9.e, F9, (sf.trans n6.f).trans n9.f, ⟨r ++ [(loI N r).toNat + x], by rw [← e1]; exact O9.put, by rw [List.length_append, hrk]; rfl, slp_add (m := m) ok slp (by omega) (by omega), fun y hy => ?_⟩, _, _, _, _, rfl⟩
    rcases List.mem_append.mp hy with z | z
    · exact top y z
    · rw [List.mem_singleton.mp z]
      omega
  · rintro F5 σ5 H5 ⟨sf, ⟨r, O5, hrk, slp, top⟩, b, c, e, g, rfl⟩
    rw [rngD_len] at hrk
    have SO := O5.outS S
    refine wss_one (ws_ret (YE.w (d := rwD r) (ye_callTy cd_tuple T.tuple PyProof.Rows.boot_tuple (ya_cons (yv 4 (.lst (sqL_of upd_same) (DpAx (rwV_dp (F := _) r) (same_new O5.fd)))) ya_nil)) SO.i fun v F6 H6 n6 dv => ?_))
    obtain ⟨m6, S6⟩ := SO.nw n6
    exact q v _ F6 H6 (O5.out.trans m6) S6 ⟨r, rfl, hrk, top⟩ dv
def gToldH (ds : List PyData) (P : PyData → Prop) : Prop := ∃ (N : Net) (m : Nat), ds = [netD N, .int m] ∧ N.Ok ∧ m ≤ 90 ∧ P = fun d => ∃ t : Told, d = tlD t ∧ TOk N t
abbrev nToldH : List Str := ["_law_row", "_law_net_here", "_law_most", "_law_base", "_law_height", "_law_found"]
theorem scToldH : FnScope nToldH ["_law_row", "_law_net_here", "_law_most"] (defScope (topS 45)) := ⟨rfl, rfl, rfl, by decide +kernel, rfl, by decide +kernel, by decide +kernel⟩
theorem ok_toldH (T : Top K mg) : Dn P w K mg base "_law_told_heights" 3 L2.CX0 ["_law_row", "_law_net_here", "_law_most"] (PuS K 2 gToldH) := by
  have D1 := ok_taken (P := P) (w := w) (base := base) T
  have D2 := ok_slope (P := P) (w := w) (base := base) T
  refine dn0 T.aToldH scToldH pus_len fun f cdv A outer s H vs Q E hr h => ?_
  obtain ⟨l, a, us, F, ds, P, rfl, S, hA, hn, ⟨N, m, rfl, ok, hm, rfl⟩, q⟩ := h
  obtain ⟨v1, v2, rfl, h1, h2⟩ := dpA2 hA
  cases dp_int h2
  have n4 := ok.n4
  have n1 := ok.n1
  have hr1 : Room 1 (A.deeper (envOfC "_law_told_heights" (defScope (topS 45)) s.heap.objs.size f cdv)) := hr.mono (by decide)
  refine wss_cons (ws_set 3 scToldH.nd (SE.w (l := l) (a := a) (se_call D2 hr (fun H Q z => we_var 0 z) (ya_cons (yv 1 h1) (ya_cons (yv 2 (Dp.int _)) ya_nil)) ⟨N, m, rfl, ok, hm, rfl⟩) S fun vb d F2 H2 n2 S2 pd db => ?_))
  obtain ⟨r, rfl, hrl, top⟩ := pd
  have n20 : Stt K l a F2 H2 := S2
  refine wss_cons (ws_setLcS (l := l) (a := a) (P := fun e => ∃ o : Option Nat, e = optD o ∧ ∀ x, o = some x → x ≤ 99) (own := [("_law_height", 4)]) 5 rfl scToldH.nd S2 (src_tup (yv 3 db)) (blkOk_by (N := nToldH) (sc := defScope (topS 45)) (by decide +kernel)) (by rw [List.length_map]; omega) (fun d F1 H1 u hd S1 s1 du => ?_) (fun p xs es F3 H3 O3 el pe da => ?_) (sw_true rfl rfl rfl (by decide +kernel)))
  · obtain ⟨x, hx, rfl⟩ := List.mem_map.mp hd
    have hx9 := top x hx
    refine ⟨_, fun s0 H0 C cl fp Q z => go_g (pg_name (i := 4) scToldH.nd rfl (Or.inl rfl)) z, rfl, fun s0 H0 C cl fp => se_ifS (st_eq (se_call D1 hr1 (fun H Q z => we_var 0 z) (ya_cons ye_int ya_nil) ⟨2, rfl, by decide, by decide, rfl⟩) fun F' => ye_int) (fun F' s' => YE.seP (yv 4 (Dpx du s')) (opt_some (by omega))) (fun F' s' => YE.seP ye_non opt_none)⟩
  · obtain ⟨t, rfl, ht⟩ := opt_list pe
    rw [List.length_map, List.length_map, hrl] at el
    have O3' : Ost K l a p F H F3 H3 (.lst xs) := O3.back n2 (by
      have z := n2.h.free (show er l H2 p = none by rw [er_ne O3.ne]; exact O3.hd)
      rw [er_ne O3.ne] at z
      exact z)
    have lxs : xs.length = N.n := by rw [dpA_len da, List.length_map, el]
    refine wss_cons (ws_mono (fun σ' H' => σ' = [some (.ref l), some v1, some (.int (m : Int)), some vb, none, some (.ref p)] ∧ ∃ (ys : List V) (t : Told) (F' : Hp), Ost K l a p F H F' H' (.lst ys) ∧ DpAll K F' ys (t.map optD) ∧ t.length = N.n ∧ ∀ h, some h ∈ t → h ≤ 99) ?_ ?_)
    · refine ws_if (ST.w (l := l) (a := a) (st_eq (se_call D1 hr1 (fun H Q z => we_var 0 z) (ya_cons ye_int ya_nil) ⟨3, rfl, by decide, by decide, rfl⟩) (fun F' => ye_int)) O3'.S fun k F4 H4 n4' S4 => ?_)
      have O4 := O3'.nx n4' S4
      have da4 := DpAx da n4'.f
      cases k with
      | false => exact iteF (wss_nil ⟨rfl, xs, t, F4, O4, da4, el, ht⟩)
      | true =>
        refine iteT (wss_one (ws_sub (SE.w (l := l) (a := a) (se_call D1 hr1 (fun H Q z => we_var 0 z) (ya_cons (ye_bin od_add (yv 2 (Dp.int _)) ye_int) ya_nil) ⟨m + 3, rfl, by omega, by omega, rfl⟩) S4 fun v d F5 H5 n5 S5 pd dv => we_var 5 ?_)))
        obtain ⟨x, hx, rfl⟩ := pd
        cases dp_int dv
        have O5 := O4.nx n5 S5
        have h15 := Dpx h1 (n2.f.trans ((O3.n.f.trans n4'.f).trans n5.f))
        refine SE.w (l := l) (a := a) (se_call D1 hr1 (fun H Q z => we_var 0 z) (ya_cons (ye_ixT (yv 1 h15) ye_int (d := .int N.n) (by rfl)) ya_nil) ⟨N.n, rfl, by omega, by omega, rfl⟩) S5 fun v d F6 H6 n6 S6 pd dv => ?_
        obtain ⟨j, hj, rfl⟩ := pd
        cases dp_int dv
        have O6 := O5.nx n6 S6
        have da6 := DpAx da4 (n5.f.trans n6.f)
        refine ⟨p, xs, j, j, rfl, rfl, O6.e, ?_, rfl, xs.set j (.int (x : Int)), t.set j (some x), F6, O6.put, ?_, by rw [List.length_set, el], fun h hh => ?_⟩
        · unfold ixN
          rw [if_pos (by omega), if_pos (by omega)]
          simp
        · rw [List.map_set]
          exact dpA_set (.int _) da6
        · rcases List.mem_or_eq_of_mem_set hh with z | z
          · exact ht h z
          · cases z
            omega
    · rintro σ' H4 ⟨rfl, ys, t', F4, O4, da4, el', ht'⟩
      have SO := O4.outS S
      refine wss_one (ws_ret (YE.w (d := tlD t') (ye_callTy cd_tuple T.tuple PyProof.Rows.boot_tuple (ya_cons (yv 5 (.lst (sqL_of upd_same) (DpAx da4 (same_new O4.fd)))) ya_nil)) SO.i fun v F6 H6 n6 dv => ?_))
      obtain ⟨m6, S6⟩ := SO.nw n6
      exact q v _ F6 H6 (O4.out.trans m6) S6 ⟨t', rfl, el', ht'⟩ dv
end
end K10
set_option Elab.async false
set_option linter.all false
set_option maxRecDepth 100000
set_option maxHeartbeats 4000000
/-! _law_alike, _law_slopes, _law_ratio. -/
namespace K10
open PySem PySem.Spec PyProof.Rows L2

/-- data of None, ints, lists and tuples, not deep, not long -/
def Al : Nat → PyData → Prop
  | 0, d => d = .none ∨ ∃ i, d = .int i
  | n + 1, d => d = .none ∨ (∃ i, d = .int i) ∨ ∃ ds : List PyData, (d = .list ds ∨ d = .tuple ds) ∧ ds.length ≤ 20000 ∧ ∀ x ∈ ds, Al n x
theorem Al.non {n : Nat} : Al n .none := by cases n <;> exact .inl rfl
theorem Al.int {n : Nat} {i : Int} : Al n (.int i) := by
  cases n with
  | zero => exact .inr ⟨i, rfl⟩
  | succ n => exact .inr (.inl ⟨i, rfl⟩)
theorem Al.tup {n : Nat} {ds : List PyData} (h : ds.length ≤ 20000) (h2 : ∀ x ∈ ds, Al n x) : Al (n + 1) (.tuple ds) := .inr (.inr ⟨ds, .inr rfl, h, h2⟩)
theorem Al.lst {n : Nat} {ds : List PyData} (h : ds.length ≤ 20000) (h2 : ∀ x ∈ ds, Al n x) : Al (n + 1) (.list ds) := .inr (.inr ⟨ds, .inl rfl, h, h2⟩)
theorem Al.sh : ∀ {n : Nat} {d : PyData}, Al n d → Sh n d
  | 0, d, h => by
    rcases h with rfl | ⟨i, rfl⟩
    · exact sh_non
    · exact sh_int
  | n + 1, d, h => by
    rcases h with rfl | ⟨i, rfl⟩ | ⟨ds, rfl | rfl, _, h⟩
    · exact sh_non
    · exact sh_int
    · exact sh_lst fun x hx => (h x hx).sh
    · exact sh_tup fun x hx => (h x hx).sh
theorem Al.up : ∀ {n : Nat} {d : PyData}, Al n d → Al (n + 1) d
  | 0, d, h => by
    rcases h with rfl | ⟨i, rfl⟩
    · exact .non
    · exact .int
  | n + 1, d, h => by
    rcases h with rfl | ⟨i, rfl⟩ | ⟨ds, e, hl, h⟩
    · exact .non
    · exact .int
    · exact .inr (.inr ⟨ds, e, hl, fun x hx => (h x hx).up⟩)
/-- the parts of a list, of a tuple -/
theorem Al.part {n : Nat} {ds : List PyData} (h : Al n (.list ds) ∨ Al n (.tuple ds)) : ds.length ≤ 20000 ∧ ∀ x ∈ ds, Al n x := by
  cases n with
  | zero => rcases h with (h | ⟨_, h⟩) | (h | ⟨_, h⟩) <;> cases h
  | succ n =>
    rcases h with (h | ⟨_, h⟩ | ⟨es, e | e, hl, h⟩) | (h | ⟨_, h⟩ | ⟨es, e | e, hl, h⟩)
    · cases h
    · cases h
    · cases e; exact ⟨hl, fun x hx => (h x hx).up⟩
    · cases e
    · cases h
    · cases h
    · cases e
    · cases e; exact ⟨hl, fun x hx => (h x hx).up⟩
theorem Al.partS {n : Nat} {ds : List PyData} (h : Al (n + 1) (.list ds) ∨ Al (n + 1) (.tuple ds)) : ∀ x ∈ ds, Al n x := by
  rcases h with (h | ⟨_, h⟩ | ⟨es, e | e, hl, h⟩) | (h | ⟨_, h⟩ | ⟨es, e | e, hl, h⟩)
  · cases h
  · cases h
  · cases e; exact h
  · cases e
  · cases h
  · cases h
  · cases e
  · cases e; exact h
open Classical in
/-- the places at which two lists are not alike -/
noncomputable def offP (xs ys : List PyData) : PyData → Bool
  | .int i => !decide (xs[i.toNat]? = ys[i.toNat]?)
  | _ => true
theorem offP_nil {xs ys : List PyData} (h : xs.length = ys.length) : (((rngD 0 ys.length).filter (offP xs ys)).map id).isEmpty = true ↔ xs = ys := by
  rw [List.map_id, List.isEmpty_iff, List.filter_eq_nil_iff]
  constructor
  · intro z
    refine List.ext_getElem? fun i => ?_
    by_cases hi : i < ys.length
    · have := z _ (List.mem_of_getElem? (rngD_at (lo := 0) hi))
      unfold offP at this
      rw [Nat.zero_add] at this
      simp at this
      exact this
    · rw [List.getElem?_eq_none (by omega), List.getElem?_eq_none (by omega)]
  · rintro rfl d hd
    obtain ⟨i, _, rfl⟩ := rngD_mem hd
    unfold offP
    simp
section
variable {P : Program} {w : World} {K : PySem.W.Frag} {mg : Str → Option Value} {base : Heap}
def gAlike (n : Nat) (ds : List PyData) (d : PyData) : Prop := ∃ (d1 d2 : PyData) (b : Bool), ds = [d1, d2] ∧ Al 9 d1 ∧ Al n d2 ∧ (b = true ↔ d1 = d2) ∧ d = .bool b
abbrev nAlike : List Str := ["_law_found", "_law_due", "_law_k"]
theorem scAlike : FnScope nAlike ["_law_found", "_law_due"] (defScope (topS 46)) := ⟨rfl, rfl, rfl, by decide +kernel, rfl, by decide +kernel, by decide +kernel⟩
theorem boot_bool : bootBuiltins "bool" = some (.type "bool") := by decide +kernel
theorem boot_listT : bootBuiltins "list" = some (.type "list") := by decide +kernel
theorem boot_strT : bootBuiltins "str" = some (.type "str") := by decide +kernel
theorem kit4 {n : Nat} {d : PyData} (h : Al n d) : ∃ t l i : Bool, kitB (tyD d) "tuple" = some t ∧ kitB (tyD d) "list" = some l ∧ kitB (tyD d) "int" = some i ∧ kitB (tyD d) "bool" = some false ∧ kitB (tyD d) "str" = some false ∧
    (t = true ↔ ∃ ds, d = .tuple ds) ∧ (l = true ↔ ∃ ds, d = .list ds) ∧ (i = true ↔ ∃ x, d = .int x) := by
  have q : d = .none ∨ (∃ i, d = .int i) ∨ ∃ ds : List PyData, d = .list ds ∨ d = .tuple ds := by
    cases n with
    | zero =>
      rcases h with h | h
      · exact .inl h
      · exact .inr (.inl h)
    | succ n =>
      rcases h with h | h | ⟨ds, h, _⟩
      · exact .inl h
      · exact .inr (.inl h)
      · exact .inr (.inr ⟨ds, h⟩)
  rcases q with rfl | ⟨i, rfl⟩ | ⟨ds, rfl | rfl⟩
  · exact ⟨false, false, false, kitNT, kitNL, kitNI, kitNB, kitNS, by simp, by simp, by simp⟩
  · exact ⟨false, false, true, kitIT, kitIL, kitII, kitIB, kitIS, by simp, by simp, by simp⟩
  · exact ⟨false, true, false, kitLT, kitLL, kitLI, kitLB, kitLS, by simp, by simp, by simp⟩
  · exact ⟨true, false, false, kitTT, kitTL, kitTI, kitTB, kitTS, by simp, by simp, by simp⟩
theorem eqv_non {n : Nat} {d : PyData} (h : Al n d) : PyData.eqv d .none = true ↔ d = .none := by
  cases d <;> simp [PyData.eqv]
/-- the places of two lists, compared one after another -/
theorem ye_off {X : Cx} {σ : L2.St} {F : Hp} {c tg iter elt : Expr} {scope : Scope} {p1 p2 : Pos} {xs ys : List PyData} (hu : X.A.units + 64 < cLine) (hx : xs.length = ys.length) (h : YL X (.ListComp elt [⟨tg, iter, [c], 0⟩] scope p1) σ F (((rngD 0 ys.length).filter (offP xs ys)).map id)) (hn : ∀ F', YL X (.List [] p2) σ F' []) {pos : Pos}
    (hm : behindInMarks .Eq (.List [] p2) = false := by first | exact nomark _ | rfl | with_unfolding_all rfl) : YE X (.Compare (.ListComp elt [⟨tg, iter, [c], 0⟩] scope p1) [.Eq] [.List [] p2] pos) σ F (.bool (((rngD 0 ys.length).filter (offP xs ys)).map id).isEmpty) :=
  YE.is (ye_cmp (od_eqD hu (Sh.sh (k := 1) (sh_lst (k := 0) fun x hx => by
    obtain ⟨y, hy, rfl⟩ := List.mem_map.mp hx
    obtain ⟨i, _, rfl⟩ := rngD_mem (List.mem_filter.mp hy).1
    exact sh_int) (by decide)) (sh_nil.sh (by decide))) (YL.ye h) (YL.ye (hn F)) hm) (by rw [eqv_nil])
theorem alike_step (T : Top K mg) (n : Nat) (rec1 : ∀ k, n = k + 1 → Dn P w K mg base "_law_alike" (k + 1) L2.CX0 ["_law_found", "_law_due"] (PuD K 2 (gAlike k))) : Dn P w K mg base "_law_alike" (n + 1) L2.CX0 ["_law_found", "_law_due"] (PuD K 2 (gAlike n)) := by
  refine dn0 T.aAlike scAlike pud_len fun f cdv A outer s H vs Q E hr h => ?_
  obtain ⟨F, ds, d, s1, hA, hn, ⟨d1, d2, b, rfl, a1, a2, hb, rfl⟩, q⟩ := h
  obtain ⟨v1, v2, rfl, h1, h2⟩ := dpA2 hA
  obtain ⟨t1, l1, i1, k1, k2, k3, k4, k5, k6, k7, k8⟩ := kit4 a1
  obtain ⟨t2, l2, i2, m1, m2, m3, m4, m5, m6, m7, m8⟩ := kit4 a2
  have fin : ∀ {F' H' : Hp} (c : Bool), Same H H' → (c = true ↔ d1 = d2) → ∀ v F2 H2, Nw F H' F2 H2 → Dp K F2 v (.bool c) → Q v H2 := fun {F' H'} c s' hc v F2 H2 n2 dv => q v F2 H2 ((Nw.hop s1 s').trans n2) (by
    have : b = c := Bool.eq_iff_iff.mpr (hb.trans hc.symm)
    rw [this]
    exact dv)
  refine wss_cons (ws_ifY (yt_val (ye_isi2 T.isi T.tuple PyProof.Rows.boot_tuple T.list boot_listT (yv 1 h2) m1 m2)) s1 (fun hk H2 s2 => ?_) fun hk H2 s2 => wss_nil ?_)
  · have s12 := s1.trans s2
    refine wss_cons (ws_ifY (yw_pt (yw_or (yt_not (yt_val (ye_isi2 T.isi T.tuple PyProof.Rows.boot_tuple T.list boot_listT (yv 0 h1) k1 k2))) fun _ => yw_or1 (yt_cmp od_neB (ye_isi T.isi T.list boot_listT (yv 0 h1) k2) (ye_isi T.isi T.list boot_listT (yv 1 h2) m2)))) s12 (fun hk3 H3 s3 => ?_) fun hk3 H3 s3 => wss_nil ?_)
    · refine wss_one (ws_ret (we_end (fin (F' := F) false (s2.trans s3) ⟨fun z => (Bool.false_ne_true z).elim, fun z => ?_⟩) (s12.trans s3) ye_bl rfl))
      subst z
      rw [m1] at k1
      rw [m2] at k2
      cases k1
      cases k2
      rw [hk] at hk3
      simp at hk3
    · have s13 := s12.trans s3
      obtain ⟨z1, z2⟩ := Bool.or_eq_false_iff.mp hk3
      have z1 : (t1 || l1) = true := by
        cases h : (t1 || l1) with
        | true => rfl
        | false =>
          rw [h] at z1
          cases z1
      have z2 : l1 = l2 := by simpa using z2
      obtain ⟨xs, ys, hd⟩ : ∃ xs ys : List PyData, (d1 = .list xs ∧ d2 = .list ys) ∨ (d1 = .tuple xs ∧ d2 = .tuple ys) := by
        cases hl : l1 with
        | true =>
          obtain ⟨xs, e1⟩ := k7.mp hl
          obtain ⟨ys, e2⟩ := m7.mp (z2 ▸ hl)
          exact ⟨xs, ys, .inl ⟨e1, e2⟩⟩
        | false =>
          rw [hl] at z1
          rw [← z2, hl] at hk
          obtain ⟨xs, e1⟩ := k6.mp (by simpa using z1)
          obtain ⟨ys, e2⟩ := m6.mp (by simpa using hk)
          exact ⟨xs, ys, .inr ⟨e1, e2⟩⟩
      have eqd : d1 = d2 ↔ xs = ys := by
        rcases hd with ⟨rfl, rfl⟩ | ⟨rfl, rfl⟩
        · exact ⟨fun z => by cases z; rfl, fun z => by rw [z]⟩
        · exact ⟨fun z => by cases z; rfl, fun z => by rw [z]⟩
      have px : xs.length ≤ 20000 ∧ ∀ x ∈ xs, Al 9 x := by
        rcases hd with ⟨rfl, rfl⟩ | ⟨rfl, rfl⟩
        · exact Al.part (.inl a1)
        · exact Al.part (.inr a1)
      have py : ys.length ≤ 20000 ∧ ∀ x ∈ ys, Al n x := by
        rcases hd with ⟨rfl, rfl⟩ | ⟨rfl, rfl⟩
        · exact Al.part (.inl a2)
        · exact Al.part (.inr a2)
      refine wss_cons (ws_ifY (yt_cmp (od_neI (i := xs.length) (j := ys.length)) (by
          rcases hd with ⟨rfl, rfl⟩ | ⟨rfl, rfl⟩
          · exact ye_callB cd_lenL T.len PySem.boot_len (ya_cons (yv 0 h1) ya_nil)
          · exact ye_callB cd_lenT T.len PySem.boot_len (ya_cons (yv 0 h1) ya_nil)) (by
          rcases hd with ⟨rfl, rfl⟩ | ⟨rfl, rfl⟩
          · exact ye_callB cd_lenL T.len PySem.boot_len (ya_cons (yv 1 h2) ya_nil)
          · exact ye_callB cd_lenT T.len PySem.boot_len (ya_cons (yv 1 h2) ya_nil))) s13 (fun hk4 H4 s4 => ?_) fun hk4 H4 s4 => wss_nil ?_)
      · refine wss_one (ws_ret (we_end (fin (F' := F) false ((s2.trans s3).trans s4) ⟨fun z => (Bool.false_ne_true z).elim, fun z => ?_⟩) (s13.trans s4) ye_bl rfl))
        rw [eqd.mp z] at hk4
        simp at hk4
      · have hlen : xs.length = ys.length := by
          simp at hk4
          omega
        obtain ⟨k, rfl⟩ : ∃ k, n = k + 1 := by
          cases n with
          | zero =>
            rcases hd with ⟨rfl, rfl⟩ | ⟨rfl, rfl⟩ <;> rcases a2 with z | ⟨_, z⟩ <;> cases z
          | succ n => exact ⟨n, rfl⟩
        have D := rec1 k rfl
        have pyk : ∀ x ∈ ys, Al k x := by
          rcases hd with ⟨rfl, rfl⟩ | ⟨rfl, rfl⟩
          · exact Al.partS (.inl a2)
          · exact Al.partS (.inr a2)
        refine wss_one (ws_ret (we_end (fin (F' := F) _ ((s2.trans s3).trans s4) ((offP_nil hlen).trans eqd.symm)) (s13.trans s4) (ye_off hr.units hlen (yl_compT (own := [("_law_k", 2)]) rfl scAlike.nd (src_rng1 (n := ys.length) T.range (ya_cons (by
          rcases hd with ⟨rfl, rfl⟩ | ⟨rfl, rfl⟩
          · exact ye_callB cd_lenL T.len PySem.boot_len (ya_cons (yv 1 h2) ya_nil)
          · exact ye_callB cd_lenT T.len PySem.boot_len (ya_cons (yv 1 h2) ya_nil)) ya_nil) (by omega)) (blkOk_by (N := nAlike) (sc := defScope (topS 46)) (by decide +kernel)) (by rw [rngD_len]; omega) (offP xs ys) id fun d hd' => ?_) fun F' => yl_lst (ds := []) ya_nil) rfl))
        obtain ⟨i, hi, rfl⟩ := rngD_mem hd'
        rw [Nat.zero_add]
        have hix : i < xs.length := by omega
        refine tn1 2 scAlike.nd (fun _ => rfl) (fun F1 u s du s0 H0 C cl fp => ⟨?_, fun _ => yv 2 du⟩) (fun _ _ _ _ _ => pg_name (i := 2) scAlike.nd rfl (Or.inl rfl))
        have g1 := Dpx h1 s
        have g2 := Dpx h2 s
        refine YT.is (k := !(!offP xs ys (.int (i : Int)))) (yt_not (yt_val (ye_call D hr pass0 (ya_cons (d := xs[i]) (by
          rcases hd with ⟨rfl, rfl⟩ | ⟨rfl, rfl⟩
          · exact ye_ixL (yv 0 g1) (yv 2 du) (atN rfl (List.getElem?_eq_getElem hix))
          · exact ye_ixT (yv 0 g1) (yv 2 du) (atN rfl (List.getElem?_eq_getElem hix))) (ya_cons (d := ys[i]) (by
          rcases hd with ⟨rfl, rfl⟩ | ⟨rfl, rfl⟩
          · exact ye_ixL (yv 1 g2) (yv 2 du) (atN rfl (List.getElem?_eq_getElem hi))
          · exact ye_ixT (yv 1 g2) (yv 2 du) (atN rfl (List.getElem?_eq_getElem hi))) ya_nil)) ⟨xs[i], ys[i], !offP xs ys (.int (i : Int)), rfl, px.2 _ (List.getElem_mem hix), pyk _ (List.getElem_mem hi), ?_, rfl⟩))) (Bool.not_not _)
        unfold offP
        rw [Bool.not_not, Int.toNat_natCast, List.getElem?_eq_getElem hix, List.getElem?_eq_getElem hi]
        simp
  · have s12 := s1.trans s2
    obtain ⟨z1, z2⟩ := Bool.or_eq_false_iff.mp hk
    refine wss_cons (ws_ifY (yw_pt (yw_or (yt_cmp od_isN (yv 1 h2) ye_non) fun _ => yw_or1 (yt_val (ye_isi T.isi T.str boot_strT (yv 1 h2) m5)))) s12 (fun hk3 H3 s3 => ?_) fun hk3 H3 s3 => wss_nil ?_)
    · have e2 : d2 = .none := by
        cases d2 <;> first | rfl | (simp [isNoneD] at hk3)
      refine wss_one (ws_ret (we_end (fin (F' := F) (PyData.eqv d1 d2) (s2.trans s3) ?_) (s12.trans s3) (ye_and (ye_cmp (od_eqD hr.units (a1.sh.sh (by decide)) (Sh.sh (k := 0) (by rw [e2]; exact sh_non) (by decide))) (yv 0 h1) (yv 1 h2)) fun _ => ye_one (ye_cmp od_eqB (ye_isi T.isi T.str boot_strT (yv 0 h1) k5) (ye_isi T.isi T.str boot_strT (yv 1 h2) m5))) ?_))
      · rw [e2]
        exact eqv_non a1
      · rw [decide_eq_true rfl, Bool.and_true]
    · obtain ⟨j, rfl⟩ : ∃ j, d2 = .int j := by
        have w3 : i2 = true := by
          cases n with
          | zero =>
            rcases a2 with rfl | ⟨i, rfl⟩
            · cases hk3
            · exact m8.mpr ⟨i, rfl⟩
          | succ n =>
            rcases a2 with rfl | ⟨i, rfl⟩ | ⟨ds, rfl | rfl, _⟩
            · cases hk3
            · exact m8.mpr ⟨i, rfl⟩
            · rw [m7.mpr ⟨ds, rfl⟩] at z2; cases z2
            · rw [m6.mpr ⟨ds, rfl⟩] at z1; cases z1
        exact m8.mp w3
      refine wss_one (ws_ret (we_end (fin (F' := F) (i1 && PyData.eqv d1 (.int j)) (s2.trans s3) ?_) (s12.trans s3) (ye_and (ye_isi T.isi T.int PyProof.Rows.boot_int (yv 0 h1) k3) fun _ => ye_and (ye_cmp od_eqB (ye_isi T.isi T.bool boot_bool (yv 0 h1) k4) (ye_isi T.isi T.bool boot_bool (yv 1 h2) m4)) fun _ => ye_one (ye_cmp (od_eqD hr.units (a1.sh.sh (by decide)) (Sh.sh (k := 0) sh_int (by decide))) (yv 0 h1) (yv 1 h2))) ?_))
      · constructor
        · intro z
          obtain ⟨y1, y2⟩ := (Bool.and_eq_true _ _).mp z
          obtain ⟨x, rfl⟩ := k8.mp y1
          simp [PyData.eqv] at y2
          rw [y2]
        · rintro rfl
          rw [k8.mpr ⟨j, rfl⟩]
          simp [PyData.eqv]
      · rw [decide_eq_true rfl, Bool.true_and]
theorem ok_alike (T : Top K mg) : ∀ n, Dn P w K mg base "_law_alike" (n + 1) L2.CX0 ["_law_found", "_law_due"] (PuD K 2 (gAlike n))
  | 0 => alike_step T 0 fun k e => nomatch e
  | n + 1 => alike_step T (n + 1) fun k e => by
    cases e
    exact ok_alike T n
end
end K10
set_option Elab.async false
set_option linter.all false
set_option maxRecDepth 100000
set_option maxHeartbeats 4000000
/-! _law_slopes, _law_ratio. -/
namespace K10
open PySem PySem.Spec PyProof.Rows L2

def fOff (N : Net) (r : List Nat) (k h : Nat) : PyData → Bool
  | .int i => decide (dist N i.toNat k < adf (r.getD i.toNat 0) h)
  | _ => false
theorem off_fits {N : Net} {r : List Nat} {k h : Nat} (hk : r.length = k) : (((rngD 0 k).filter (fOff N r k h)).map id).isEmpty = fits N r h := by
  subst hk
  rw [List.map_id, Bool.eq_iff_iff, List.isEmpty_iff, List.filter_eq_nil_iff]
  unfold fits
  rw [List.all_eq_true]
  constructor
  · intro z i hi
    have hi := List.mem_range.mp hi
    have := z _ (List.mem_of_getElem? (rngD_at (lo := 0) hi))
    unfold fOff at this
    rw [Nat.zero_add, decide_eq_true_iff, Int.toNat_natCast] at this
    exact decide_eq_true (by omega)
  · intro z d hd
    obtain ⟨i, hi, rfl⟩ := rngD_mem hd
    have := of_decide_eq_true (z i (List.mem_range.mpr hi))
    unfold fOff
    rw [Nat.zero_add, decide_eq_true_iff, Int.toNat_natCast]
    omega
theorem eqv_nilL (ds : List PyData) : PyData.eqv (.list ds) (.list []) = ds.isEmpty := eqv_nil ds
theorem filt_snoc (p : Nat → Bool) (n : Nat) : (List.range (n + 1)).filter p = (List.range n).filter p ++ (if p n = true then [n] else []) := by
  rw [List.range_succ, List.filter_append, List.filter_cons, List.filter_nil]
/-! the ratio of two numbers: Euclid -/
def euc (p : Nat × Nat) : Nat × Nat := if p.2 = 0 then p else (p.2, p.1 % p.2)
structure Eu (a b i : Nat) (x y : Nat) : Prop where
  g : Nat.gcd x y = Nat.gcd a b
  x0 : i = 0 ∨ 0 < x
  le : i = 0 ∨ y ≤ x
  p : 2 ^ (i - 1) * (x * y) ≤ a * b
theorem eu0 (a b : Nat) : Eu a b 0 a b := ⟨rfl, .inl rfl, .inl rfl, by rw [show (0 - 1 : Nat) = 0 from rfl, Nat.pow_zero, Nat.one_mul]; exact Nat.le_refl _⟩
theorem eu_step {a b i x y : Nat} (E : Eu a b i x y) (hy : 0 < y) : Eu a b (i + 1) y (x % y) := by
  have hm := Nat.mod_lt x hy
  refine ⟨?_, .inr hy, .inr (Nat.le_of_lt hm), ?_⟩
  · rw [Nat.gcd_comm y, ← Nat.gcd_rec y x, Nat.gcd_comm]
    exact E.g
  · rw [Nat.add_sub_cancel]
    rcases Nat.eq_zero_or_pos i with z | z
    · subst z
      have := E.p
      rw [show (0 - 1 : Nat) = 0 from rfl, Nat.pow_zero, Nat.one_mul] at this
      rw [Nat.pow_zero, Nat.one_mul]
      refine Nat.le_trans ?_ this
      rw [Nat.mul_comm x y]
      exact Nat.mul_le_mul_left _ (Nat.mod_le x y)
    · have le : y ≤ x := E.le.resolve_left (by omega)
      have h2 : 2 * (x % y) ≤ x := by
        have h3 := Nat.div_add_mod x y
        have h4 : 1 ≤ x / y := (Nat.one_le_div_iff hy).mpr le
        have h5 : y * 1 ≤ y * (x / y) := Nat.mul_le_mul_left _ h4
        omega
      have e : 2 ^ i * (y * (x % y)) = 2 ^ (i - 1) * (y * (2 * (x % y))) := by
        obtain ⟨j, rfl⟩ : ∃ j, i = j + 1 := ⟨i - 1, by omega⟩
        rw [Nat.add_sub_cancel, Nat.pow_succ, Nat.mul_assoc, ← Nat.mul_assoc 2 y, Nat.mul_comm 2 y, Nat.mul_assoc y 2]
      rw [e]
      refine Nat.le_trans (Nat.mul_le_mul_left _ (Nat.mul_le_mul_left y h2)) ?_
      rw [Nat.mul_comm y x]
      exact E.p
theorem eu_end {a b x y : Nat} (E : Eu a b 900 x y) (ha : a ≤ 2 ^ 40) (hb : b ≤ 2 ^ 40) : y = 0 := by
  rcases Nat.eq_zero_or_pos y with z | z
  · exact z
  · exfalso
    have hx : 0 < x := E.x0.resolve_left (by decide)
    have h1 : 1 ≤ x * y := Nat.mul_pos hx z
    have h2 : 2 ^ 899 * 1 ≤ 2 ^ (900 - 1) * (x * y) := Nat.mul_le_mul_left _ h1
    have h3 := Nat.le_trans h2 E.p
    have h4 : a * b ≤ 2 ^ 40 * 2 ^ 40 := Nat.mul_le_mul ha hb
    have h5 : (2 : Nat) ^ 40 * 2 ^ 40 < 2 ^ 899 := by
      rw [← Nat.pow_add]
      exact Nat.pow_lt_pow_right (by decide) (by decide)
    rw [Nat.mul_one] at h3
    exact absurd (Nat.le_trans h3 h4) (Nat.not_le.mpr h5)
section
variable {P : Program} {w : World} {K : PySem.W.Frag} {mg : Str → Option Value} {base : Heap}
def gSlopes (ds : List PyData) (d : PyData) : Prop := ∃ (N : Net) (m : Nat), ds = [matD N.n (dist N), .int m] ∧ N.Ok ∧ m ≤ 99 ∧ (m + 1) ^ N.n ≤ 20000 ∧ d = rsD (rowsT N [] m N.n)
abbrev nSlopes : List Str := ["_law_far_here", "_law_most", "_law_rows", "_law_place", "_law_later", "_law_row", "_law_height", "_law_one"]
theorem scSlopes : FnScope nSlopes ["_law_far_here", "_law_most"] (defScope (topS 47)) := ⟨rfl, rfl, rfl, by decide +kernel, rfl, by decide +kernel, by decide +kernel⟩
theorem ok_slopes (T : Top K mg) : Dn P w K mg base "_law_slopes" 1 L2.CX0 ["_law_far_here", "_law_most"] (PuD K 2 gSlopes) := by
  refine dn0 T.aSlopes scSlopes pud_len fun f cdv A outer s H vs Q E hr h => ?_
  obtain ⟨F, ds, d, s1, hA, hn, ⟨N, m, rfl, ok, hm, few, rfl⟩, q⟩ := h
  obtain ⟨v1, v2, rfl, h1, h2⟩ := dpA2 hA
  cases dp_int h2
  have n4 := ok.n4
  refine wss_cons (ws_set 2 scSlopes.nd (YE.w (d := rsD [[]]) (YL.ye (yl_lst (ds := [rwD []]) (ya_cons (ye_tup ya_nil) ya_nil))) s1 fun u F2 H2 n2 du => ?_))
  refine wss_cons (ws_for PassesOwn.never rfl (src_rng1 (n := N.n) T.range (ya_cons (YE.is (ye_callB cd_lenL T.len PySem.boot_len (ya_cons (yv 0 (Dpx h1 n2.f)) ya_nil)) (by rw [List.length_map, List.length_range])) ya_nil) (by omega)) n2.i fun F3 H3 n3 => ⟨fun k F4 σ4 H4 => Nw F H F4 H4 ∧ Same F3 F4 ∧ ∃ v b c e g j, σ4 = [some v1, some (.int m), some v, b, c, e, g, j] ∧ Dp K F4 v (rsD (rowsT N [] m k)),
    ⟨n2.trans n3, Same.refl _, u, none, none, none, none, none, rfl, Dpx du n3.f⟩, ?_, ?_, ?_⟩)
  · rintro i F4 σ4 H4 ⟨n, s, _⟩
    exact ⟨s, n.i⟩
  · rintro k d F4 σ4 H4 F5 H5 u' hd ⟨nw4, sf4, v, b, c, e, g, j, rfl, dv⟩ n5 du'
    have hk : k < N.n := by
      have := (List.getElem?_eq_some_iff.mp hd).1
      rw [rngD_len] at this
      exact this
    rw [rngD_at hk, Nat.zero_add] at hd
    cases hd
    cases dp_int du'
    have few1 : (rowsT N [] m k).length * (m + 1) ≤ 20000 := by
      have h1 := Nat.mul_le_mul_right (m + 1) (rowsT_few N [] m k)
      rw [← Nat.pow_succ] at h1
      exact Nat.le_trans h1 (Nat.le_trans (Nat.pow_le_pow_right (Nat.succ_pos m) (by omega : k + 1 ≤ N.n)) few)
    have nw5 := nw4.trans n5
    refine wg_name 3 scSlopes.nd ?_
    refine wss_cons (ws_set 4 scSlopes.nd (YL.w (yl_lst (ds := []) ya_nil) nw5.i fun l xs F6 H6 n6 hl fl el dA => ?_))
    cases dA
    have nw6 := nw5.trans n6
    have hl' : H l = none := nw5.h.free hl
    have dv6 := Dpx dv (n5.f.trans n6.f)
    generalize hrs : rowsT N [] m k = rs at dv6 few1
    have hrl : ∀ r ∈ rs, r.length = k := fun r hr => rowsT_len (hrs ▸ hr)
    refine wss_cons (ws_for PassesOwn.never rfl (src_list (yv 2 dv6)) n6.i fun F7 H7 n7 => ⟨fun i F8 σ8 H8 => Nw F H F8 H8 ∧ Same F7 F8 ∧ F8 l = none ∧ (∃ xs, H8 l = some (.lst xs) ∧ DpAll K F8 xs (((rs.take i).flatMap (ext N [] m)).map rwD)) ∧ ∃ e g j, σ8 = [some v1, some (.int m), some v, some (.int k), some (.ref l), e, g, j],
      ⟨nw6.trans n7, Same.refl _, n7.out fl (by rw [el]; exact fun z => nomatch z), ⟨[], n7.h l _ el, .nil⟩, _, _, _, rfl⟩, ?_, ?_, ?_⟩)
    · rintro i F8 σ8 H8 ⟨n, s, _⟩
      exact ⟨s, n.i⟩
    · rintro i d F8 σ8 H8 F9 H9 u9 hd ⟨nw8, sf8, fl8, ⟨xs, el8, dA8⟩, e, g, j, rfl⟩ n9 du9
      have hi : i < rs.length := by
        have := (List.getElem?_eq_some_iff.mp hd).1
        rw [List.length_map] at this
        exact this
      rw [List.getElem?_map, List.getElem?_eq_getElem hi] at hd
      cases hd
      have htk : rs.take (i + 1) = rs.take i ++ [rs[i]] := by rw [List.take_add_one, List.getElem?_eq_getElem hi]; rfl
      have hrk := hrl rs[i] (List.getElem_mem hi)
      have lenB : xs.length ≤ i * (m + 1) := by
        rw [dpA_len dA8, List.length_map]
        have := flat_few (ext_few N [] m) (rs.take i)
        rw [List.length_take] at this
        exact Nat.le_trans this (Nat.mul_le_mul_right _ (Nat.min_le_left _ _))
      have lenT : (i + 1) * (m + 1) ≤ 20000 := Nat.le_trans (Nat.mul_le_mul_right _ hi) few1
      rw [Nat.add_mul] at lenT
      generalize rs[i] = r at du9 htk hrk
      have nw9 := nw8.trans n9
      refine wg_name 5 scSlopes.nd ?_
      refine wss_one (ws_for PassesOwn.never rfl (src_rng1 (n := m + 1) T.range (ya_cons (ye_bin od_add (yv 1 (Dp.int _)) ye_int) ya_nil) (by omega)) nw9.i fun F10 H10 n10 => ⟨fun h F11 σ11 H11 => Nw F H F11 H11 ∧ Same F10 F11 ∧ F11 l = none ∧ (∃ xs, H11 l = some (.lst xs) ∧ DpAll K F11 xs ((((rs.take i).flatMap (ext N [] m)) ++ (((List.range h).filter fun h => fits N r h).map fun h => r ++ [h])).map rwD)) ∧ ∃ g j, σ11 = [some v1, some (.int m), some v, some (.int k), some (.ref l), some u9, g, j],
        ⟨nw9.trans n10, Same.refl _, n10.out (n9.out fl8 (by rw [el8]; exact fun z => nomatch z)) (by rw [n9.h l _ el8]; exact fun z => nomatch z), ⟨xs, n10.h l _ (n9.h l _ el8), by rw [List.range_zero, List.filter_nil, List.map_nil, List.append_nil]; exact DpAx dA8 (n9.f.trans n10.f)⟩, _, _, rfl⟩, ?_, ?_, ?_⟩)
      · rintro i F11 σ11 H11 ⟨n, s, _⟩
        exact ⟨s, n.i⟩
      · rintro h d F11 σ11 H11 F12 H12 u12 hd ⟨nw11, sf11, fl11, ⟨zs, el11, dz⟩, g, j, rfl⟩ n12 du12
        have hh : h < m + 1 := by
          have := (List.getElem?_eq_some_iff.mp hd).1
          rw [rngD_len] at this
          exact this
        rw [rngD_at hh, Nat.zero_add] at hd
        cases hd
        cases dp_int du12
        have nw12 := nw11.trans n12
        have fl12 : F12 l = none := n12.out fl11 (by rw [el11]; exact fun z => nomatch z)
        have el12 := n12.h l _ el11
        have dr := Dpx du9 ((n10.f.trans sf11).trans n12.f)
        have g1 := Dpx h1 nw12.f
        have lenZ : zs.length ≤ xs.length + h := by
          rw [dpA_len dz, List.length_map, List.length_append, List.length_map]
          have := dpA_len dA8
          rw [List.length_map] at this
          have h2 := List.length_filter_le (fun h => fits N r h) (List.range h)
          rw [List.length_range] at h2
          omega
        refine wg_name 6 scSlopes.nd ?_
        refine wss_one (ws_ifY (k := fits N r h) (YT.is (yt_cmp (od_eqD hr.units (Sh.sh (k := 1) (sh_lst (k := 0) fun x hx => ?_) (by decide)) (sh_nil.sh (by decide))) (YL.ye (yl_compT (own := [("_law_one", 7)]) rfl scSlopes.nd (src_rng1 (n := k) T.range (ya_cons (yv 3 (Dp.int _)) ya_nil) (by omega)) (blkOk_by (N := nSlopes) (sc := defScope (topS 47)) (by decide +kernel)) (by rw [rngD_len]; omega) (fOff N r k h) id fun d hd => ?_)) (YL.ye (yl_lst (ds := []) ya_nil))) ?_) nw12.i (fun hk13 H13 s13 => ?_) fun hk13 H13 s13 => wss_nil ⟨F12, nw12.trans (Nw.hop nw12.i s13), sf11.trans n12.f, fl12, ⟨zs, s13 l _ el12, ?_⟩, _, _, rfl⟩)
        · obtain ⟨y, hy, rfl⟩ := List.mem_map.mp hx
          obtain ⟨i, _, rfl⟩ := rngD_mem (List.mem_filter.mp hy).1
          exact sh_int
        · obtain ⟨i', hi', rfl⟩ := rngD_mem hd
          refine tn1 7 scSlopes.nd (fun _ => rfl) (fun F1 u s du s0 H0 C cl fp => ⟨?_, fun _ => yv 7 du⟩) (fun _ _ _ _ _ => pg_name (i := 7) scSlopes.nd rfl (Or.inl rfl))
          refine YT.is (yt_cmp od_gt (YE.is (ye_callB cd_abs T.abs PyProof.Rows.boot_abs (ya_cons (ye_bin od_sub (ye_ixT (yv 5 (Dpx dr s)) (yv 7 du) (atN (j := i') (by omega) (rw_at (by omega)))) (yv 6 (Dp.int _))) ya_nil)) (congrArg PyData.int (adf_int _ _))) (ye_mat (i := 0 + i') (yv 0 (Dpx g1 s)) (yv 7 du) (yv 3 (Dp.int _)) (by omega) hk)) ?_
          show _ = decide (dist N (((0 + i' : Nat) : Int)).toNat k < adf (r.getD (((0 + i' : Nat) : Int)).toNat 0) h)
          rw [Int.toNat_natCast, Nat.zero_add]
          exact decide_eq_decide.mpr (by omega)
        · rw [eqv_nil, off_fits hrk]
        · have nw13 := nw12.trans (Nw.hop nw12.i s13)
          refine wss_one (ws_expr (we_append nw13.i fl12 (s13 l _ el12) (fun Q z => we_var 4 z) (YE.ev (ye_catT (yv 5 dr) (ye_tup (ya_cons (yv 6 (Dp.int _)) ya_nil)) (by rw [List.length_map, List.length_singleton]; omega)) nw13.i) (by omega) fun u14 F14 H14 n14 fl14 el14 du14 => ⟨F14, (nw13.trans n14).mut hl' fl14, (sf11.trans n12.f).trans n14.f, fl14, ⟨_, upd_same, ?_⟩, _, _, rfl⟩))
          rw [filt_snoc, if_pos hk13, List.map_append (f := fun h => r ++ [h]), ← List.append_assoc, List.map_append]
          refine dpA_app (DpAx dz (n12.f.trans n14.f)) (dpA_one ?_)
          show Dp K F14 u14 (PyData.tuple ((r ++ [h]).map fun (h : Nat) => PyData.int h))
          rw [List.map_append]
          exact du14
        · rw [filt_snoc, if_neg (by rw [hk13]; decide), List.append_nil]
          exact DpAx dz n12.f
      · rintro F11 σ11 H11 ⟨nw11, sf11, fl11, ⟨zs, el11, dz⟩, g, j, rfl⟩
        rw [rngD_len] at dz
        refine ⟨F11, nw11, ((sf8.trans n9.f).trans n10.f).trans sf11, fl11, ⟨zs, el11, ?_⟩, _, _, _, rfl⟩
        rw [htk, List.flatMap_append, List.flatMap_cons, List.flatMap_nil, List.append_nil]
        have e : ext N [] m r = ((List.range (m + 1)).filter fun h => fits N r h).map fun h => r ++ [h] := by
          unfold ext
          congr 1
          refine List.filter_congr fun x _ => ?_
          show (fits N r x && true) = _
          rw [Bool.and_true]
        rw [e]
        exact dz
    · rintro F8 σ8 H8 ⟨nw8, sf8, fl8, ⟨zs, el8, dz⟩, e, g, j, rfl⟩
      rw [List.length_map, List.take_length] at dz
      have nL := nw8.learn hl' el8 fl8
      refine wss_one (ws_set 2 scSlopes.nd (we_var 4 ⟨_, nL, (((sf4.trans n5.f).trans n6.f).trans (n7.f.trans sf8)).trans (same_new fl8), .ref l, _, _, _, _, _, rfl, ?_⟩))
      show Dp K _ (.ref l) (rsD ((rowsT N [] m k).flatMap (ext N [] m)))
      rw [hrs]
      exact .lst (sqL_of upd_same) (DpAx dz (same_new fl8))
  · rintro F4 σ4 H4 ⟨nw4, sf4, v, b, c, e, g, j, rfl, dv⟩
    rw [rngD_len] at dv
    exact wss_one (ws_ret (we_var 2 (q _ F4 H4 nw4 dv)))
def gRatio (ds : List PyData) (d : PyData) : Prop := ∃ a b : Nat, ds = [.int a, .int b] ∧ 0 < b ∧ b ≤ 20000 ∧ a ≤ 2 ^ 40 ∧ d = ratD a b
abbrev nRatio : List Str := ["_law_top", "_law_bottom", "_law_one", "_law_other", "_law_turn"]
theorem scRatio : FnScope nRatio ["_law_top", "_law_bottom"] (defScope (topS 49)) := ⟨rfl, rfl, rfl, by decide +kernel, rfl, by decide +kernel, by decide +kernel⟩
theorem ok_ratio (T : Top K mg) : Dn P w K mg base "_law_ratio" 1 L2.CX0 ["_law_top", "_law_bottom"] (PuD K 2 gRatio) := by
  refine dn0 T.aRatio scRatio pud_len fun f cdv A outer s H vs Q E hr h => ?_
  obtain ⟨F, ds, d, s1, hA, hn, ⟨a, b, rfl, hb, hb2, ha, rfl⟩, q⟩ := h
  obtain ⟨v1, v2, rfl, h1, h2⟩ := dpA2 hA
  cases dp_int h1
  cases dp_int h2
  have g0 : 0 < Nat.gcd a b := Nat.gcd_pos_of_pos_right _ hb
  have g1 : Nat.gcd a b ≤ b := Nat.gcd_le_right _ hb
  refine wss_cons (ws_par 2 3 rfl scRatio.nd (wa_two (YE.w (d := .int a) (YE.is (ye_callB cd_abs T.abs PyProof.Rows.boot_abs (ya_cons (yv 0 (Dp.int _)) ya_nil)) (by rw [if_neg (by omega)])) s1 fun u F2 H2 n2 du => we_var 1 ⟨u, _, rfl, ?_⟩)))
  cases dp_int du
  have fin : ∀ (F' H' : Hp) (D : Ends) (c : Option V) (y : V), Nw F H F' H' → D.rt = Q → WSs (cxOf L2.CX0 P w K mg base nRatio "_law_ratio" (defScope (topS 49)) f cdv A outer s H E).nox ((defBody (topS 49)).drop 2) D [some (.int a), some (.int b), some (.int (Nat.gcd a b : Nat)), some y, c] H' := fun F' H' D c y n e => by
    refine wss_one (ws_ret (we_end (d := .tuple [_, _]) (fun v F2 H2 n2 dv => by rw [e]; exact q v F2 H2 (n.trans n2) dv) n.i (ye_tup (ya_cons (ye_bin (od_fdiv (i := (a : Int)) (j := ((Nat.gcd a b : Nat) : Int)) (by omega) (by omega)) (yv 0 (Dp.int _)) (yv 2 (Dp.int _))) (ya_cons (ye_bin (od_fdiv (i := (b : Int)) (j := ((Nat.gcd a b : Nat) : Int)) (by omega) (by omega)) (yv 1 (Dp.int _)) (yv 2 (Dp.int _))) ya_nil))) ?_))
    unfold ratD
    rw [Int.natCast_ediv, Int.natCast_ediv]
  refine wss_cons (ws_for PassesOwn.never rfl (src_rng1 (n := 900) T.range (ya_cons ye_int ya_nil) (by decide)) n2.i fun F3 H3 n3 => ⟨fun i F4 σ4 H4 => F4 = F3 ∧ Nw F H F4 H4 ∧ ∃ (x y : Nat) (c : Option V), σ4 = [some (.int a), some (.int b), some (.int x), some (.int y), c] ∧ Eu a b i x y,
    ⟨rfl, n2.trans n3, a, b, none, rfl, eu0 a b⟩, ?_, ?_, ?_⟩)
  · rintro i F4 σ4 H4 ⟨rfl, n, _⟩
    exact ⟨Same.refl _, n.i⟩
  · rintro i d F4 σ4 H4 F5 H5 u hd ⟨rfl, nw4, x, y, c, rfl, eu⟩ n5 du
    refine wg_name 4 scRatio.nd ?_
    have nw5 := nw4.trans n5
    refine wss_cons (ws_ifY (F := F5) (yt_cmp od_eqI (yv 3 (Dp.int _)) ye_int) nw5.i (fun hk H6 s6 => wss_one (go_s ps_break ?_)) fun hk H6 s6 => wss_nil ?_)
    · have hy : y = 0 := by
        have := of_decide_eq_true hk
        omega
      subst hy
      have e : x = Nat.gcd a b := by rw [← eu.g, Nat.gcd_zero_right]
      subst e
      exact fin F5 H6 _ _ _ (nw5.trans (Nw.hop nw5.i s6)) rfl
    · have hy : 0 < y := by
        have := of_decide_eq_false hk
        omega
      refine wss_one (ws_par 2 3 rfl scRatio.nd (wa_two (we_var 3 (YE.w (d := .int ((x % y : Nat) : Int)) (YE.is (ye_bin (od_mod (i := (x : Int)) (j := (y : Int)) (by omega)) (ye_callTy cd_int T.int PyProof.Rows.boot_int (ya_cons (yv 2 (Dp.int _)) ya_nil)) (yv 3 (Dp.int _))) (congrArg PyData.int (by rw [Int.natCast_emod]))) (nw5.i.trans s6) fun u7 F7 H7 n7 du7 => ⟨_, u7, rfl, F4, rfl, ?_, y, x % y, some u, ?_, eu_step eu hy⟩))))
      · exact nw4.trans (Nw.hop nw4.i ((n5.h.trans s6).trans n7.h))
      · cases dp_int du7
        rfl
  · rintro F4 σ4 H4 ⟨rfl, nw4, x, y, c, rfl, eu⟩
    rw [rngD_len] at eu
    have hy := eu_end eu ha (by omega)
    subst hy
    have e : x = Nat.gcd a b := by rw [← eu.g, Nat.gcd_zero_right]
    subst e
    exact fin F4 H4 _ _ _ nw4 rfl
end
end K10
set_option Elab.async false
set_option linter.all false
set_option maxRecDepth 100000
set_option maxHeartbeats 4000000
/-! _law_tried, called with lambdas. -/
namespace K10
open PySem PySem.Spec PyProof.Rows L2

/-- what is known, without tables of code -/
def nt (F : Hp) : Hp := fun b => match F b with
  | some (.tbl _) => none
  | o => o
section
variable {K : PySem.W.Frag} {F H H1 : Hp} {l a : Addr}
theorem nt_some {b : Addr} {o : HO} (h : nt F b = some o) : F b = some o ∧ ∀ ps, o ≠ .tbl ps := by
  unfold nt at h
  split at h
  · cases h
  · rename_i hn
    exact ⟨h, fun ps z => by subst z; exact hn ps h⟩
theorem nt_keep {b : Addr} {o : HO} (h : F b = some o) (hn : ∀ ps, o ≠ .tbl ps) : nt F b = some o := by
  unfold nt
  split
  · rename_i ps e
    rw [h] at e
    cases e
    exact absurd rfl (hn ps)
  · exact h
theorem sqL_nt {b : Addr} {xs : List V} (h : SqL K F b xs) : SqL K (nt F) b xs := by
  rcases h with (h | ⟨o, h⟩) | h
  · exact .inl (.inl (nt_keep h fun ps z => by cases z))
  · exact .inl (.inr ⟨o, nt_keep h fun ps z => by cases z⟩)
  · exact .inr h
theorem sqT_nt {b : Addr} {xs : List V} (h : SqT K F b xs) : SqT K (nt F) b xs := by
  rcases h with (h | ⟨o, h⟩) | h
  · exact .inl (.inl (nt_keep h fun ps z => by cases z))
  · exact .inl (.inr ⟨o, nt_keep h fun ps z => by cases z⟩)
  · exact .inr h
mutual
theorem dp_nt : ∀ (d : PyData) (v : V), Dp K F v d → Dp K (nt F) v d
  | .none, _, h => by cases h; exact .non
  | .bool b, _, h => by cases h; exact .bl b
  | .int i, _, h => by cases h; exact .int i
  | .str x, _, h => by cases h; exact .str x
  | .list ds, _, h => by
    cases h with
    | lst hs ha => exact .lst (sqL_nt hs) (dpA_nt ds _ ha)
  | .tuple ds, _, h => by
    cases h with
    | tup hs ha => exact .tup (sqT_nt hs) (dpA_nt ds _ ha)
  | .dict _, _, h => by cases h
theorem dpA_nt : ∀ (ds : List PyData) (vs : List V), DpAll K F vs ds → DpAll K (nt F) vs ds
  | [], _, h => by cases h; exact .nil
  | d :: ds, _, h => by
    cases h with
    | cons h1 h2 => exact .cons (dp_nt d _ h1) (dpA_nt ds _ h2)
end
/-- the state of the law: draws, and the table of its lambdas -/
structure LS (K : PySem.W.Frag) (l a P : Addr) (q : Str) (F H : Hp) : Prop where
  S : Stt K l a F H
  T : LamX.Tabs [(P, q)] (er l H)
variable {P : Addr} {q : Str} {F' H' : Hp}
theorem LS.nx (L : LS K l a P q F H) (n : NwE l F H F' H') (S : Stt K l a F' H') : LS K l a P q F' H' := ⟨S, L.T.ext n.h⟩
theorem LS.nw (L : LS K l a P q F H) (n : Nw F H F' H') : LS K l a P q F' H' := by
  obtain ⟨a1, a2⟩ := L.S.nw n
  exact L.nx a1 a2
theorem LS.tabs (L : LS K l a P q F H) : LamX.Tabs [(P, q)] H := L.T.ext er_in
theorem LS.lam (L : LS K l a P q F H) (e : LamX.ExtN H H1) (T : LamX.Tabs [(P, q)] H1) : LS K l a P q (nt F) H1 := by
  obtain ⟨i, sd, rs, hl, hi⟩ := L.S.v
  have hl1 : H1 l = some (.lst [.ref a, .int i, .int sd, .int rs]) := e l _ hl fun ps z => by cases z
  refine ⟨⟨fun b o h => ?_, ⟨i, sd, rs, hl1, hi⟩, ?_⟩, fun p hp => ?_⟩
  · obtain ⟨h1, h2⟩ := nt_some h
    have h3 := L.S.s b o h1
    have hb : b ≠ l := ne_of_none h1 L.S.no
    rw [er_ne hb] at h3 ⊢
    exact e b o h3 h2
  · obtain ⟨ns, h⟩ := L.S.q
    exact ⟨ns, sqL_nt h⟩
  · obtain ⟨ps, h1, h2, h3⟩ := T p hp
    have nl : ∀ {b : Addr} {o : HO}, H1 b = some o → (∀ xs, o ≠ .lst xs) → er l H1 b = some o := fun {b o} h hn => by
      have hb : b ≠ l := fun z => by
        rw [z, hl1] at h
        cases h
        exact hn _ rfl
      rw [er_ne hb]
      exact h
    refine ⟨ps, nl h1 fun xs z => (by cases z), h2, fun pos cv hc => ?_⟩
    obtain ⟨c, e1, e2⟩ := h3 pos cv hc
    exact ⟨c, e1, nl e2 fun xs z => by unfold LamX.CodeO at z; cases z⟩
end
abbrev nTried : List Str := ["_law_work", "_law_found"]
theorem scTried : FnScope nTried ["_law_work"] (defScope (topS 48)) := ⟨rfl, rfl, rfl, by decide +kernel, rfl, by decide +kernel, by decide +kernel⟩
/-- a call of what was got, "none" for an exception of CS -/
def TTr (K : PySem.W.Frag) (CS : Addr) : (XK → Hp → VK → Prop) → Hp → VK → Prop := fun tl H Q => ∀ Q' : VK, (∀ v H', Q v H' → Q' v H') →
  tl (fun cls _ H' => ∃ b, PySem.W.exmOne K cls (.ref CS) = some b ∧ (b = true → Q (.str "none") H') ∧ (b = false → False)) H Q'
theorem pss_of {X : Cx} {st : List Stmt} {t : TS} (h : ∀ D σ H, t D σ H → WSs X st D σ H) : PSs X st t := ⟨fun pins s σ H D I q => h D σ H q pins s I⟩
theorem gives_tried {X : Cx} {g : Addr} {cdg : Value} {q : Str} {CS : Addr} (hme : X.mg "NoRow" = some (.ref CS)) : LamX.GivesTo X nTried "_law_tried" (defScope (topS 48)) g cdg (defBody (topS 48)) "_law_work" q (TTr X.K CS) := by
  intro f c' s H Q tl act hc h
  have hgl : Gl (cxOf C8.CX0 X.prog X.w X.K X.mg X.base nTried "_law_tried" (defScope (topS 48)) g cdg X.A X.stack s H C8.E0).nox "NoRow" := rfl
  refine ⟨_, pss_ws, ?_⟩
  refine wss_cons (ws_set 1 scTried.nd (go_e pe_str ?_))
  refine wss_cons (go_s (ps_try_only (X := (cxOf C8.CX0 X.prog X.w X.K X.mg X.base nTried "_law_tried" (defScope (topS 48)) g cdg X.A X.stack s H C8.E0).nox) (c := .ref CS)
      (tb := fun W D σ H => ∃ Ech : XK, (∀ cls d σ' H', Ech cls d H' → W cls d σ' H') ∧ σ[0]? = some (some (.ref f)) ∧ H c' = some (LamX.CodeO c' q) ∧ tl Ech H fun v H' => D.nx (σ.set 1 (some v)) H')
      (ts := fun _ _ _ D σ H => D.nx (σ.set 1 (some (.str "none"))) H)
      rfl rfl ⟨hgl, by decide, .inl hme⟩ LamX.takes0 (fun W pn xe tk _ => ?_) (fun a oe cls d pn _ _ => ?_)) ?_)
  · refine pss_of fun D σ H' h' => ?_
    obtain ⟨Ech, hW, h1, h2, h3⟩ := h'
    exact wss_one (ws_set 1 scTried.nd (go_e (act W pn xe Ech _ _ tk hW) ⟨h1, h2, h3⟩))
  · exact pss_one (ps_set (i := 1) scTried.nd rfl (Or.inl rfl) pe_str rfl (.inl rfl))
  · refine ⟨fun cls _ H' => ∃ b, PySem.W.exmOne X.K cls (.ref CS) = some b ∧ (b = true → Q (.str "none") H') ∧ (b = false → False), fun cls d σ' H' ⟨b, e1, e2, e3⟩ => ⟨b, e1, fun hb a _ => ?_, fun hb => e3 hb⟩, rfl, hc, ?_⟩
    · intro pins s1 I
      have len : (σ'.set 1 (some (V.str "none"))).length = 2 := I.len
      rw [List.length_set] at len
      obtain ⟨x, y, rfl⟩ : ∃ x y, σ' = [x, y] := by
        match σ', len with
        | [x, y], _ => exact ⟨x, y, rfl⟩
      exact wss_one (ws_ret (we_var 1 (e2 hb))) pins s1 I
    · exact h _ fun v H' hq => wss_one (ws_ret (we_var 1 hq))
section
variable {X : Cx} {σ : L2.St} {F H : Hp}
/-- _law_tried(lambda: body) -/
theorem we_tried {C c P : Addr} {k : Nat} {params : Arguments} {body : Expr} {scope : Scope} {p lpos pos : Pos} {Q : VK} (A : At X.K X.mg "_law_tried" (topS 48) ["_law_work"]) (hme : X.mg "NoRow" = some (.ref C)) (TB : LamX.TabB X.base X.mg c P) (hcode : X.env.code = .ref c) (hr : Room (k + 2) X.A) (hT : LamX.Tabs [(P, X.env.qual ++ "<lambda>")] H)
    (h : ∀ H1, LamX.ExtN H H1 → LamX.Tabs [(P, X.env.qual ++ "<lambda>")] H1 → ∀ Q' : VK, (∀ v H', Q v H' → Q' v H') → ∀ (A : Around) (outer : List Env) (s : Shared) (H0 : Hp) (f c' : Addr), Room k (A.deeper (LamX.lamEnv X scope s.heap.objs.size f c')) →
      WE (LamX.lamCx X A outer s H0 (fun cls _ H' => ∃ b, PySem.W.exmOne X.K cls (.ref C) = some b ∧ (b = true → Q (.str "none") H') ∧ (b = false → False)) scope f c') body σ H1 Q')
    (L : LamX.LamS X.env.scope scope) (hg : Gl X "_law_tried" := by rfl) (hdef : defaultsOf params X.env = ([], []) := by rfl)
    (hbind : ∀ (q : Str) (cl : List (Str × Addr)) (pm cv ctv : Value), bindArgs (PySem.W.kla_fn "<lambda>" q params body scope cl pm cv ctv) ⟨[], []⟩ = pure [] := by intros; rfl) : WE X (.Call (.Name "_law_tried" p) [.Lambda params body scope lpos] [] pos) σ H Q := by
  obtain ⟨g, fd, hm, FF, hb⟩ := A.ex
  obtain ⟨oc, od, kV, doc, pm, an, cdv, ct, osl, rfl, lk, hcd⟩ := FF.ex
  refine go_e (LamX.pe_lamcall (T := [(P, X.env.qual ++ "<lambda>")]) (TT := TTr X.K C) (Ng := nTried) (t := fun E σ H Q => ∀ (A : Around) (outer : List Env) (s : Shared) (H0 : Hp) (f c' : Addr), Room k (A.deeper (LamX.lamEnv X scope s.heap.objs.size f c')) → WE (LamX.lamCx X A outer s H0 E scope f c') body σ H Q)
    hg hm FF.kp lk hcd hb scTried rfl (.inl rfl) (gives_tried hme) TB hcode List.mem_cons_self (fun p hp _ => by rw [List.mem_singleton.mp hp]) hr L hdef hbind (fun A outer s H E f c' hr => ⟨fun pins s' σ H' Q I z => z A outer s H f c' hr pins s' I⟩)) ⟨hT, fun H1 e T1 Q' hQ A outer s H0 f c' hr => h H1 e T1 Q' hQ A outer s H0 f c' hr⟩
end
end K10
set_option Elab.async false
set_option linter.all false
set_option maxRecDepth 100000
set_option maxHeartbeats 4000000
/-! The plain law: rows, told heights, least and greatest rows. -/
namespace K10

theorem getD_app {r : List Nat} {h i : Nat} (hi : i < r.length) : (r ++ [h]).getD i 0 = r.getD i 0 := by rw [List.getD_eq_getElem?_getD, List.getElem?_append_left hi, List.getD_eq_getElem?_getD]
theorem getD_last {r : List Nat} {h : Nat} : (r ++ [h]).getD r.length 0 = h := by
  rw [List.getD_eq_getElem?_getD, List.getElem?_append_right (Nat.le_refl _), Nat.sub_self]
  rfl
/-- what a slope row that is as told has -/
structure Rw (N : Net) (t : Told) (m : Nat) (r : List Nat) : Prop where
  top : ∀ i, i < r.length → r.getD i 0 ≤ m
  slp : ∀ i j, i < j → j < r.length → adf (r.getD i 0) (r.getD j 0) ≤ dist N i j
  tld : ∀ i, i < r.length → tm t i (r.getD i 0) = true
theorem rowsT_iff {N : Net} {t : Told} {m : Nat} : ∀ {k : Nat} {r : List Nat}, r ∈ rowsT N t m k ↔ r.length = k ∧ Rw N t m r
  | 0, r => by
    constructor
    · intro h
      rw [List.mem_singleton.mp h]
      exact ⟨rfl, fun i hi => absurd hi (Nat.not_lt_zero _), fun i j _ hj => absurd hj (Nat.not_lt_zero _), fun i hi => absurd hi (Nat.not_lt_zero _)⟩
    · rintro ⟨h, _⟩
      rw [List.length_eq_zero_iff.mp h]
      exact List.mem_singleton.mpr rfl
  | k + 1, r => by
    constructor
    · intro h
      obtain ⟨s, hs, e⟩ := List.mem_flatMap.mp h
      obtain ⟨x, hx, rfl⟩ := List.mem_map.mp e
      obtain ⟨h1, h2⟩ := rowsT_iff.mp hs
      obtain ⟨hx1, hx2⟩ := List.mem_filter.mp hx
      have hx1 := List.mem_range.mp hx1
      obtain ⟨f1, f2⟩ := (Bool.and_eq_true _ _).mp hx2
      unfold fits at f1
      rw [List.all_eq_true] at f1
      have f1 : ∀ i, i < s.length → adf (s.getD i 0) x ≤ dist N i s.length := fun i hi => of_decide_eq_true (f1 i (List.mem_range.mpr hi))
      refine ⟨by rw [List.length_append, h1]; rfl, fun i hi => ?_, fun i j hij hj => ?_, fun i hi => ?_⟩
      · rw [List.length_append, List.length_singleton] at hi
        by_cases z : i = s.length
        · rw [z, getD_last]; omega
        · rw [getD_app (by omega)]; exact h2.top i (by omega)
      · rw [List.length_append, List.length_singleton] at hj
        rw [getD_app (by omega : i < s.length)]
        by_cases z : j = s.length
        · rw [z, getD_last]; exact f1 i (by omega)
        · rw [getD_app (by omega)]; exact h2.slp i j hij (by omega)
      · rw [List.length_append, List.length_singleton] at hi
        by_cases z : i = s.length
        · rw [z, getD_last]; exact f2
        · rw [getD_app (by omega)]; exact h2.tld i (by omega)
    · rintro ⟨h1, h2⟩
      have hne : r ≠ [] := fun z => by rw [z] at h1; cases h1
      have e := List.dropLast_concat_getLast hne
      generalize r.dropLast = s at e
      generalize r.getLast hne = x at e
      subst e
      rw [List.length_append, List.length_singleton] at h1
      have hs : s.length = k := by omega
      have len : (s ++ [x]).length = s.length + 1 := by rw [List.length_append]; rfl
      refine List.mem_flatMap.mpr ⟨s, rowsT_iff.mpr ⟨hs, fun i hi => ?_, fun i j hij hj => ?_, fun i hi => ?_⟩, List.mem_map.mpr ⟨x, List.mem_filter.mpr ⟨List.mem_range.mpr ?_, ?_⟩, rfl⟩⟩
      · have := h2.top i (by omega)
        rw [getD_app hi] at this
        exact this
      · have := h2.slp i j hij (by omega)
        rw [getD_app (by omega), getD_app hj] at this
        exact this
      · have := h2.tld i (by omega)
        rw [getD_app hi] at this
        exact this
      · have := h2.top s.length (by omega)
        rw [getD_last] at this
        omega
      · refine (Bool.and_eq_true _ _).mpr ⟨?_, ?_⟩
        · unfold fits
          rw [List.all_eq_true]
          intro i hi
          have hi := List.mem_range.mp hi
          have := h2.slp i s.length hi (by omega)
          rw [getD_app hi, getD_last] at this
          exact decide_eq_true this
        · have := h2.tld s.length (by omega)
          rw [getD_last] at this
          exact this
/-- a row is as told, at each of its places -/
def mt (t : Told) (r : List Nat) : Bool := (List.range r.length).all fun i => tm t i (r.getD i 0)
theorem mt_add {t : Told} {r : List Nat} {h : Nat} : mt t (r ++ [h]) = (mt t r && tm t r.length h) := by
  unfold mt
  rw [List.length_append, List.length_singleton, List.range_succ, List.all_append, List.all_cons, List.all_nil, Bool.and_true, getD_last]
  congr 1
  rw [Bool.eq_iff_iff, List.all_eq_true, List.all_eq_true]
  constructor
  · intro z i hi
    have := z i hi
    rw [getD_app (List.mem_range.mp hi)] at this
    exact this
  · intro z i hi
    rw [getD_app (List.mem_range.mp hi)]
    exact z i hi
theorem ext_mt (N : Net) (t : Told) (m : Nat) (r : List Nat) : (ext N [] m r).filter (mt t) = if mt t r = true then ext N t m r else [] := by
  unfold ext
  rw [List.filter_map]
  have e : (mt t ∘ fun h => r ++ [h]) = fun h => mt t r && tm t r.length h := by
    funext h
    exact mt_add
  rw [e, List.filter_filter]
  cases hm : mt t r with
  | true =>
    rw [if_pos rfl]
    congr 1
    refine List.filter_congr fun h _ => ?_
    show ((true && tm t r.length h) && (fits N r h && true)) = (fits N r h && tm t r.length h)
    rw [Bool.true_and, Bool.and_true, Bool.and_comm]
  | false =>
    rw [if_neg (by decide)]
    have : ((List.range (m + 1)).filter fun a => (false && tm t r.length a) && (fits N r a && tm [] r.length a)) = [] := by
      rw [List.filter_eq_nil_iff]
      intro x _
      simp
    rw [this]
    rfl
theorem flat_filter {α β : Type} (f : α → List β) (p : α → Bool) : ∀ l : List α, (l.flatMap fun x => if p x = true then f x else []) = (l.filter p).flatMap f
  | [] => rfl
  | x :: l => by
    rw [List.flatMap_cons, List.filter_cons, flat_filter f p l]
    cases h : p x with
    | true => rw [if_pos rfl, if_pos rfl, List.flatMap_cons]
    | false => rw [if_neg (by decide), if_neg (by decide), List.nil_append]
theorem rows_mt (N : Net) (t : Told) (m : Nat) : ∀ k, (rowsT N [] m k).filter (mt t) = rowsT N t m k
  | 0 => by
    show [[]].filter (mt t) = [[]]
    rw [List.filter_cons]
    rfl
  | k + 1 => by
    show ((rowsT N [] m k).flatMap (ext N [] m)).filter (mt t) = (rowsT N t m k).flatMap (ext N t m)
    rw [List.filter_flatMap]
    have e : (fun a => (ext N [] m a).filter (mt t)) = fun r => if mt t r = true then ext N t m r else [] := funext fun r => ext_mt N t m r
    rw [e, flat_filter, rows_mt N t m k]
section
variable {N : Net} (ok : N.Ok) {t : Told} {m : Nat}
theorem tm_some {p h g : Nat} (e : t.getD p none = some h) : tm t p g = decide (h = g) := by
  unfold tm
  rw [e]
theorem lowI_ge {p : Nat} : 0 ≤ lowI N t p ∧ ∀ q h, q < t.length → t.getD q none = some h → (h : Int) ≤ lowI N t p + dist N q p := by
  have sp := mxI_spec (0 :: (toldL t).map fun x => (x.2 : Int) - (dist N x.1 p : Nat)) (by simp)
  refine ⟨sp.2 0 List.mem_cons_self, fun q h hq e => ?_⟩
  have := sp.2 _ (List.mem_cons_of_mem _ (List.mem_map.mpr ⟨(q, h), toldL_mem.mpr ⟨hq, e⟩, rfl⟩))
  have : (h : Int) - (dist N q p : Nat) ≤ lowI N t p := this
  omega
theorem lowI_le {p : Nat} {x : Int} (h0 : 0 ≤ x) (h : ∀ q g, q < t.length → t.getD q none = some g → (g : Int) ≤ x + dist N q p) : lowI N t p ≤ x := by
  have sp := (mxI_spec (0 :: (toldL t).map fun x => (x.2 : Int) - (dist N x.1 p : Nat)) (by simp)).1
  unfold lowI
  rcases List.mem_cons.mp sp with e | e
  · rw [e]; exact h0
  · obtain ⟨⟨q, g⟩, hq, e2⟩ := List.mem_map.mp e
    obtain ⟨a, b⟩ := toldL_mem.mp hq
    have := h q g a b
    rw [← e2]
    show (g : Int) - (dist N q p : Nat) ≤ x
    omega
theorem higI_le {p : Nat} : higI N t m p ≤ m ∧ ∀ q h, q < t.length → t.getD q none = some h → higI N t m p ≤ (h : Int) + dist N q p := by
  have sp := mnI_spec ((m : Int) :: (toldL t).map fun x => (x.2 : Int) + (dist N x.1 p : Nat)) (by simp)
  refine ⟨sp.2 _ List.mem_cons_self, fun q h hq e => ?_⟩
  exact sp.2 _ (List.mem_cons_of_mem _ (List.mem_map.mpr ⟨(q, h), toldL_mem.mpr ⟨hq, e⟩, rfl⟩))
theorem higI_ge {p : Nat} {x : Int} (h0 : x ≤ m) (h : ∀ q g, q < t.length → t.getD q none = some g → x ≤ (g : Int) + dist N q p) : x ≤ higI N t m p := by
  have sp := (mnI_spec ((m : Int) :: (toldL t).map fun x => (x.2 : Int) + (dist N x.1 p : Nat)) (by simp)).1
  unfold higI
  rcases List.mem_cons.mp sp with e | e
  · rw [e]; exact h0
  · obtain ⟨⟨q, g⟩, hq, e2⟩ := List.mem_map.mp e
    obtain ⟨a, b⟩ := toldL_mem.mp hq
    rw [← e2]
    exact h q g a b
theorem noR_iff : noR N t m = false ↔ clashO N t = none ∧ tle t m = true := by
  unfold noR
  rw [Bool.or_eq_false_iff]
  constructor
  · rintro ⟨h1, h2⟩
    refine ⟨?_, by simpa using h2⟩
    cases e : clashO N t with
    | none => rfl
    | some p =>
      rw [e] at h1
      cases h1
  · rintro ⟨h1, h2⟩
    rw [h1, h2]
    exact ⟨rfl, rfl⟩
theorem tle_at (h : tle t m = true) {q g : Nat} (e : t.getD q none = some g) : g ≤ m := by
  unfold tle at h
  rw [List.all_eq_true] at h
  have hm : some g ∈ t := by
    rw [List.getD_eq_getElem?_getD] at e
    cases z : t[q]? with
    | none =>
      rw [z] at e
      cases e
    | some o =>
      rw [z] at e
      have : o = some g := e
      rw [← this]
      exact List.mem_of_getElem? z
  exact of_decide_eq_true (h _ hm)
include ok in
/-- told heights that do not clash -/
theorem ncl (h : clashO N t = none) {p q a b : Nat} (hp : p < t.length) (hq : q < t.length) (ep : t.getD p none = some a) (eq : t.getD q none = some b) : a ≤ b + dist N q p := by
  have key : ∀ i j x y, i < j → j < t.length → t.getD i none = some x → t.getD j none = some y → adf x y ≤ dist N i j := fun i j x y hij hj ex ey => by
    have := clashO_no h i j hij hj
    unfold cl at this
    rw [ex, ey] at this
    have := of_decide_eq_false this
    omega
  rcases Nat.lt_trichotomy p q with z | z | z
  · have := adf_le.mp (key p q a b z hq ep eq)
    rw [dist_sym ok q p]
    exact this.1
  · subst z
    rw [ep] at eq
    cases eq
    omega
  · have := adf_le.mp (key q p b a z hp eq ep)
    exact this.2
include ok in
theorem low_tld (h : clashO N t = none) {p g : Nat} (hp : p < t.length) (e : t.getD p none = some g) : lowI N t p = g := by
  have h1 := (lowI_ge (N := N) (t := t) (p := p)).2 p g hp e
  rw [dist_zero ok] at h1
  have h2 : lowI N t p ≤ (g : Int) := lowI_le (by omega) fun q b hq eq => by
    have := ncl ok h hq hp eq e
    rw [dist_sym ok] at this
    omega
  omega
include ok in
theorem hig_tld (h : clashO N t = none) (ht : tle t m = true) {p g : Nat} (hp : p < t.length) (e : t.getD p none = some g) : higI N t m p = g := by
  have h1 := (higI_le (N := N) (t := t) (m := m) (p := p)).2 p g hp e
  rw [dist_zero ok] at h1
  have h2 : (g : Int) ≤ higI N t m p := higI_ge (by have := tle_at ht e; omega) fun q b hq eq => by
    have := ncl ok h hp hq e eq
    omega
  omega
def lowRw (N : Net) (t : Told) : List Nat := (List.range t.length).map fun p => (lowI N t p).toNat
def higRw (N : Net) (t : Told) (m : Nat) : List Nat := (List.range t.length).map fun p => (higI N t m p).toNat
theorem map_getD {f : Nat → Nat} {n i : Nat} (hi : i < n) : ((List.range n).map f).getD i 0 = f i := by
  rw [List.getD_eq_getElem?_getD, List.getElem?_map, List.getElem?_range hi]
  rfl
include ok in
theorem low_in (tk : TOk N t) (h : noR N t m = false) : lowRw N t ∈ rowsT N t m t.length := by
  obtain ⟨hc, ht⟩ := noR_iff.mp h
  have hl : (lowRw N t).length = t.length := by unfold lowRw; rw [List.length_map, List.length_range]
  have n0 : ∀ p, 0 ≤ lowI N t p := fun p => (lowI_ge (N := N) (t := t) (p := p)).1
  have g : ∀ i, i < t.length → (lowRw N t).getD i 0 = (lowI N t i).toNat := fun i hi => map_getD hi
  refine rowsT_iff.mpr ⟨hl, fun i hi => ?_, fun i j hij hj => ?_, fun i hi => ?_⟩
  · rw [hl] at hi
    rw [g i hi]
    have : lowI N t i ≤ m := lowI_le (by omega) fun q b hq eq => by have := tle_at ht eq; omega
    omega
  · rw [hl] at hj
    rw [g i (by omega), g j hj]
    have a := n0 i
    have b := n0 j
    have hjn : j < N.n := by rw [← tk.len]; exact hj
    have hin : i < N.n := by rw [← tk.len]; omega
    have h1 : lowI N t i ≤ lowI N t j + dist N i j := lowI_le (by omega) fun q b hq eq => by
      have := (lowI_ge (N := N) (t := t) (p := j)).2 q b hq eq
      have h3 := dist_tri ok hin q j
      omega
    have h2 : lowI N t j ≤ lowI N t i + dist N i j := lowI_le (by omega) fun q b hq eq => by
      have := (lowI_ge (N := N) (t := t) (p := i)).2 q b hq eq
      have h3 := dist_tri ok hjn q i
      rw [dist_sym ok j i] at h3
      omega
    exact adf_le.mpr (by omega)
  · rw [hl] at hi
    rw [g i hi]
    cases e : t.getD i none with
    | none =>
      unfold tm
      rw [e]
    | some x =>
      rw [tm_some e, low_tld ok hc hi e]
      exact decide_eq_true (by omega)
include ok in
theorem hig_in (tk : TOk N t) (h : noR N t m = false) : higRw N t m ∈ rowsT N t m t.length := by
  obtain ⟨hc, ht⟩ := noR_iff.mp h
  have hl : (higRw N t m).length = t.length := by unfold higRw; rw [List.length_map, List.length_range]
  have n0 : ∀ p, 0 ≤ higI N t m p := fun p => higI_ge (by omega) fun q b hq eq => by omega
  have g : ∀ i, i < t.length → (higRw N t m).getD i 0 = (higI N t m i).toNat := fun i hi => map_getD hi
  refine rowsT_iff.mpr ⟨hl, fun i hi => ?_, fun i j hij hj => ?_, fun i hi => ?_⟩
  · rw [hl] at hi
    rw [g i hi]
    have := (higI_le (N := N) (t := t) (m := m) (p := i)).1
    omega
  · rw [hl] at hj
    rw [g i (by omega), g j hj]
    have a := n0 i
    have b := n0 j
    have hjn : j < N.n := by rw [← tk.len]; exact hj
    have hin : i < N.n := by rw [← tk.len]; omega
    have h1 : higI N t m i - dist N i j ≤ higI N t m j := higI_ge (by have := (higI_le (N := N) (t := t) (m := m) (p := i)).1; omega) fun q b hq eq => by
      have := (higI_le (N := N) (t := t) (m := m) (p := i)).2 q b hq eq
      have h3 := dist_tri ok hjn q i
      rw [dist_sym ok j i] at h3
      omega
    have h2 : higI N t m j - dist N i j ≤ higI N t m i := higI_ge (by have := (higI_le (N := N) (t := t) (m := m) (p := j)).1; omega) fun q b hq eq => by
      have := (higI_le (N := N) (t := t) (m := m) (p := j)).2 q b hq eq
      have h3 := dist_tri ok hin q j
      omega
    exact adf_le.mpr (by omega)
  · rw [hl] at hi
    rw [g i hi]
    cases e : t.getD i none with
    | none =>
      unfold tm
      rw [e]
    | some x =>
      rw [tm_some e, hig_tld ok hc ht hi e]
      exact decide_eq_true (by omega)
include ok in
/-- no row lies beneath the least, above the greatest -/
theorem row_btw (tk : TOk N t) {r : List Nat} (h : r ∈ rowsT N t m t.length) {p : Nat} (hp : p < t.length) : lowI N t p ≤ (r.getD p 0 : Nat) ∧ ((r.getD p 0 : Nat) : Int) ≤ higI N t m p := by
  obtain ⟨hl, R⟩ := rowsT_iff.mp h
  have tl : ∀ q g, q < t.length → t.getD q none = some g → r.getD q 0 = g := fun q g hq e => by
    have := R.tld q (by omega)
    rw [tm_some e] at this
    exact (of_decide_eq_true this).symm
  have sl : ∀ i j, i < t.length → j < t.length → r.getD i 0 ≤ r.getD j 0 + dist N i j := fun i j hi hj => by
    rcases Nat.lt_trichotomy i j with z | z | z
    · exact (adf_le.mp (R.slp i j z (by omega))).1
    · subst z; omega
    · rw [dist_sym ok i j]
      exact (adf_le.mp (R.slp j i z (by omega))).2
  refine ⟨lowI_le (by omega) fun q g hq e => ?_, higI_ge (by have := R.top p (by omega); omega) fun q g hq e => ?_⟩
  · have := sl q p hq hp
    rw [tl q g hq e] at this
    omega
  · have := sl p q hp hq
    rw [tl q g hq e, dist_sym ok p q] at this
    omega
include ok in
theorem rows_nil (tk : TOk N t) : rowsT N t m t.length = [] ↔ noR N t m = true := by
  constructor
  · intro z
    cases e : noR N t m with
    | true => rfl
    | false =>
      have := low_in (m := m) ok tk e
      rw [z] at this
      cases this
  · intro e
    refine List.eq_nil_iff_forall_not_mem.mpr fun r hr => ?_
    obtain ⟨hl, R⟩ := rowsT_iff.mp hr
    have tl : ∀ q g, q < t.length → t.getD q none = some g → r.getD q 0 = g := fun q g hq e => by
      have := R.tld q (by omega)
      rw [tm_some e] at this
      exact (of_decide_eq_true this).symm
    have no : noR N t m = false := by
      refine noR_iff.mpr ⟨clashO_none fun i j hij hj => ?_, ?_⟩
      · unfold cl
        cases ei : t.getD i none with
        | none => rfl
        | some x =>
          cases ej : t.getD j none with
          | none => rfl
          | some y =>
            have := R.slp i j hij (by omega)
            rw [tl i x (by omega) ei, tl j y hj ej] at this
            exact decide_eq_false (by omega)
      · unfold tle
        rw [List.all_eq_true]
        intro o ho
        cases o with
        | none => rfl
        | some g =>
          obtain ⟨q, hq, e2⟩ := List.getElem_of_mem ho
          have e3 : t.getD q none = some g := by
            rw [List.getD_eq_getElem?_getD, List.getElem?_eq_getElem hq, e2]
            rfl
          have := R.top q (by omega)
          rw [tl q g hq e3] at this
          exact decide_eq_true this
    rw [no] at e
    cases e
/-- the heights of a place in all rows -/
def endL (N : Net) (t : Told) (m p : Nat) : List Int := (rowsT N t m t.length).map fun r => ((r.getD p 0 : Nat) : Int)
include ok in
theorem end_min (tk : TOk N t) (h : noR N t m = false) {p : Nat} (hp : p < t.length) : mnI (endL N t m p) = lowI N t p := by
  have hin := low_in (m := m) ok tk h
  have g : (lowRw N t).getD p 0 = (lowI N t p).toNat := map_getD hp
  have n0 := (lowI_ge (N := N) (t := t) (p := p)).1
  have ml : lowI N t p ∈ endL N t m p := List.mem_map.mpr ⟨_, hin, by rw [g]; omega⟩
  obtain ⟨s1, s2⟩ := mnI_spec (endL N t m p) (fun z => by rw [z] at ml; cases ml)
  obtain ⟨r, hr, e⟩ := List.mem_map.mp s1
  have := (row_btw ok tk hr hp).1
  have := s2 _ ml
  omega
include ok in
theorem end_max (tk : TOk N t) (h : noR N t m = false) {p : Nat} (hp : p < t.length) : mxI (endL N t m p) = higI N t m p := by
  have hin := hig_in (m := m) ok tk h
  have g : (higRw N t m).getD p 0 = (higI N t m p).toNat := map_getD hp
  have n0 : 0 ≤ higI N t m p := higI_ge (by omega) fun q b hq eq => by omega
  have ml : higI N t m p ∈ endL N t m p := List.mem_map.mpr ⟨_, hin, by rw [g]; omega⟩
  obtain ⟨s1, s2⟩ := mxI_spec (endL N t m p) (fun z => by rw [z] at ml; cases ml)
  obtain ⟨r, hr, e⟩ := List.mem_map.mp s1
  have := (row_btw ok tk hr hp).2
  have := s2 _ ml
  omega
end
/-- the pairs of places whose told heights clash -/
def prs (N : Net) (t : Told) : List (Nat × Nat) := (List.range t.length).flatMap fun i => (((List.range (t.length - (i + 1))).map fun j => i + 1 + j).filter fun j => cl N t i j).map fun j => (i, j)
theorem prs_mem {N : Net} {t : Told} {p : Nat × Nat} : p ∈ prs N t ↔ p.1 < p.2 ∧ p.2 < t.length ∧ cl N t p.1 p.2 = true := by
  unfold prs
  rw [List.mem_flatMap]
  constructor
  · rintro ⟨i, hi, e⟩
    obtain ⟨j, hj, rfl⟩ := List.mem_map.mp e
    obtain ⟨h1, h2⟩ := List.mem_filter.mp hj
    obtain ⟨k, hk, rfl⟩ := List.mem_map.mp h1
    have hk := List.mem_range.mp hk
    exact ⟨by show i < i + 1 + k; omega, by show i + 1 + k < t.length; omega, h2⟩
  · rintro ⟨h1, h2, h3⟩
    refine ⟨p.1, List.mem_range.mpr (by omega), List.mem_map.mpr ⟨p.2, List.mem_filter.mpr ⟨List.mem_map.mpr ⟨p.2 - (p.1 + 1), List.mem_range.mpr (by omega), by omega⟩, h3⟩, rfl⟩⟩
def lexP (p q : Nat × Nat) : Prop := p.1 < q.1 ∨ (p.1 = q.1 ∧ p.2 < q.2)
theorem prs_sorted (N : Net) (t : Told) : (prs N t).Pairwise lexP := by
  unfold prs
  refine List.pairwise_flatMap.mpr ⟨fun i _ => ?_, ?_⟩
  · rw [List.pairwise_map]
    refine List.Pairwise.filter _ ?_
    rw [List.pairwise_map]
    refine List.pairwise_lt_range.imp fun {a b} h => ?_
    exact .inr ⟨rfl, by show i + 1 + a < i + 1 + b; omega⟩
  · refine List.pairwise_lt_range.imp fun {i j} h p hp q hq => ?_
    obtain ⟨x, _, rfl⟩ := List.mem_map.mp hp
    obtain ⟨y, _, rfl⟩ := List.mem_map.mp hq
    exact .inl h
theorem prs_head (N : Net) (t : Told) : (prs N t).head? = clashO N t := by
  cases e : prs N t with
  | nil =>
    symm
    refine clashO_none fun i j hij hj => ?_
    cases z : cl N t i j with
    | false => rfl
    | true =>
      have : (i, j) ∈ prs N t := prs_mem.mpr ⟨hij, hj, z⟩
      rw [e] at this
      cases this
  | cons p l =>
    symm
    have hp := prs_mem.mp (show p ∈ prs N t by rw [e]; exact List.mem_cons_self)
    refine clashO_some ⟨hp.1, hp.2.1, hp.2.2, fun i j hij hj h => ?_⟩
    cases z : cl N t i j with
    | false => rfl
    | true =>
      exfalso
      have hm : (i, j) ∈ prs N t := prs_mem.mpr ⟨hij, hj, z⟩
      have srt := prs_sorted N t
      rw [e] at hm srt
      rcases List.mem_cons.mp hm with q | q
      · rw [← q] at h
        simp only at h
        omega
      · have := (List.pairwise_cons.mp srt).1 _ q
        unfold lexP at this
        simp only at this h
        omega
end K10
set_option Elab.async false
set_option linter.all false
set_option maxRecDepth 100000
set_option maxHeartbeats 4000000
/-! The law, from its 18th statement on. -/
namespace K10
open PySem PySem.Spec PyProof.Rows L2

abbrev nLaw : List Str := ["_law_script", "_law_row", "_law_net_here", "_law_many", "_law_far_here", "_law_most", "_law_told", "_law_pairs", "_law_one", "_law_other", "_law_rows", "_law_some", "_law_at", "_law_least", "_law_greatest", "_law_stay", "_law_place", "_law_counts", "_law_height", "_law_mean", "_law_ends"]
theorem scLaw : FnScope nLaw ["_law_script"] (defScope (topS 50)) := ⟨rfl, rfl, rfl, by decide +kernel, rfl, by decide +kernel, by decide +kernel⟩
theorem dpA_ix {K : PySem.W.Frag} {F : Hp} {vs : List V} {ds : List PyData} {v : V} {d : PyData} (i : Nat) (h : DpAll K F vs ds) (hv : vs[i]? = some v := by rfl) (hd : ds[i]? = some d := by rfl) : Dp K F v d := by
  obtain ⟨u, h1, h2⟩ := dpA_get h hd
  rw [hv] at h1
  cases h1
  exact h2
/-- what _law_tried gives -/
def rOr (r : Option PyData) : PyData := r.getD (.str "none")
theorem sh_str {k : Nat} : Sh k (.str "none") := ⟨by simp only [PyData.canLay0]; decide +kernel, by simp only [PyData.depth]; omega⟩
theorem eqv_str : PyData.eqv (.str "none") (.str "none") = true := by
  simp [PyData.eqv]
theorem eqv_tup (ds : List PyData) : PyData.eqv (.tuple ds) (.str "none") = false := by
  simp [PyData.eqv]
def toI : PyData → Int
  | .int i => i
  | _ => 0
theorem toI_map (ns : List Int) : (ns.map PyData.int).map toI = ns := by
  rw [List.map_map]
  exact (List.map_congr_left fun _ _ => rfl).trans (List.map_id ns)
def gEnd (N : Net) (t : Told) (m : Nat) : PyData → PyData
  | .int i => .list ((endL N t m i.toNat).map PyData.int)
  | _ => .none
def gMin : PyData → PyData
  | .list l => .int (mnI (l.map toI))
  | _ => .none
def gMax : PyData → PyData
  | .list l => .int (mxI (l.map toI))
  | _ => .none
def gIf : PyData → PyData
  | .list l => if mnI (l.map toI) = mxI (l.map toI) then .int (mnI (l.map toI)) else .none
  | _ => .none
theorem al_rat {n a b : Nat} : Al (n + 1) (ratD a b) := Al.tup (by show 2 ≤ 20000; decide) fun x hx => by
  rcases List.mem_cons.mp hx with e | e
  · rw [e]; exact .int
  · rw [List.mem_singleton.mp e]; exact .int
theorem al_map {n k : Nat} {f : Nat → PyData} (hk : k ≤ 20000) (h : ∀ i, Al n (f i)) : Al (n + 1) (.tuple ((List.range k).map f)) := Al.tup (by rw [List.length_map, List.length_range]; exact hk) fun x hx => by
  obtain ⟨i, _, rfl⟩ := List.mem_map.mp hx
  exact h i
theorem sum_le {α : Type} {f : α → Nat} {c : Nat} : ∀ l : List α, (∀ x ∈ l, f x ≤ c) → (l.map f).sum ≤ l.length * c
  | [], _ => Nat.zero_le _
  | x :: l, h => by
    rw [List.map_cons, List.sum_cons, List.length_cons, Nat.add_mul]
    have := sum_le l fun y hy => h y (List.mem_cons_of_mem _ hy)
    have := h x List.mem_cons_self
    omega
section
variable {P : Program} {w : World} {K : PySem.W.Frag} {mg : Str → Option Value} {base : Heap} {f : Addr} {cdv : Value} {A : Around} {outer : List Env} {s0 : Shared} {H0 : Hp} {E : XK}
abbrev LX (P : Program) (w : World) (K : PySem.W.Frag) (mg : Str → Option Value) (base : Heap) (f : Addr) (cdv : Value) (A : Around) (outer : List Env) (s0 : Shared) (H0 : Hp) (E : XK) : Cx := (cxOf L2.CX0 P w K mg base nLaw "law" (defScope (topS 50)) f cdv A outer s0 H0 E).nox
theorem law_c (T : Top K mg) {N : Net} (ok : N.Ok) {t : Told} (tk : TOk N t) {m p : Nat} (hm : m ≤ 9) (few : (m + 1) ^ t.length ≤ 20000) (hp : p < N.n) {F H : Hp} (s : Same F H) {D : Ends} (hr : Room 8 (LX P w K mg base f cdv A outer s0 H0 E).A) (q : ∀ H', D.rt (.bl true) H')
    {vnet vfar vt vrows vleast vgreat vstay vmean : V} {x0 x1 x7 x8 x9 x11 x12 x17 x18 x20 : Option V}
    (kA : DpAll K F [vnet, vfar, vt, vrows, vleast, vgreat, vstay, vmean] [netD N, matD N.n (dist N), tlD t, rsD (rowsT N t m t.length), rOr (lowR N t), rOr (higR N t m), rOr (sureR N t m), rOr (meanR N t m p)]) :
    WSs (LX P w K mg base f cdv A outer s0 H0 E) ((defBody (topS 50)).drop 18) D [x0, x1, some vnet, some (.int N.n), some vfar, some (.int m), some vt, x7, x8, x9, some vrows, x11, x12, some vleast, some vgreat, some vstay, some (.int p), x17, x18, some vmean, x20] H := by
  have D1 := ok_ratio (P := P) (w := w) (base := base) T
  have DA := ok_alike (P := P) (w := w) (base := base) T
  have n4 := ok.n4
  have tl := tk.len
  have few' := rowsT_few' (N := N) (t := t) (m := m) (Nat.le_refl t.length) few
  have dR := dpA_ix 3 kA
  have hu := hr.units
  refine wss_cons (ws_ifY (yt_cmp (od_eqD hu ((sh_rs _).sh (by decide)) (sh_nil.sh (by decide))) (yv 10 dR) (YL.ye (yl_lst (ds := []) ya_nil))) s (fun hk H2 s2 => ?_) fun hk H2 s2 => wss_nil ?_)
  · have hN : rowsT N t m t.length = [] := by
      have z : PyData.eqv (rsD (rowsT N t m t.length)) (.list []) = true := hk
      unfold rsD at z
      rw [eqv_nil, List.isEmpty_map, List.isEmpty_iff] at z
      exact z
    have no := (rows_nil ok tk).mp hN
    have dS := dpA_ix 6 kA
    have dM := dpA_ix 7 kA
    have e1 : rOr (sureR N t m) = .str "none" := by
      unfold sureR
      rw [no]
      rfl
    have e2 : rOr (meanR N t m p) = .str "none" := by
      unfold meanR
      rw [no]
      rfl
    rw [e1] at dS
    rw [e2] at dM
    refine wss_one (ws_ret (YE.w (d := .bool true) (YE.is (ye_and (ye_cmp (od_eqD hu (sh_str.sh (k := 0) (by decide)) (sh_str.sh (k := 0) (by decide))) (yv 15 dS) ye_str) fun _ => ye_one (ye_cmp (od_eqD hu (sh_str.sh (k := 0) (by decide)) (sh_str.sh (k := 0) (by decide))) (yv 19 dM) ye_str)) ?_) (s.trans s2) fun v F3 H3 n3 dv => by
      cases dp_bl dv
      exact q H3))
    rw [eqv_str]
    rfl
  · have hne : rowsT N t m t.length ≠ [] := fun z => by
      have z2 : PyData.eqv (rsD (rowsT N t m t.length)) (.list []) = false := hk
      unfold rsD at z2
      rw [eqv_nil, List.isEmpty_map, z] at z2
      cases z2
    have no : noR N t m = false := by
      cases e : noR N t m with
      | false => rfl
      | true => exact absurd ((rows_nil ok tk).mpr e) hne
    have hc : (clashO N t).isSome = false := by rw [(noR_iff.mp no).1]; rfl
    have eL : rOr (lowR N t) = .tuple ((List.range t.length).map fun p => .int (lowI N t p)) := by
      unfold lowR
      rw [hc]
      rfl
    have eH : rOr (higR N t m) = .tuple ((List.range t.length).map fun p => .int (higI N t m p)) := by
      unfold higR
      rw [no]
      rfl
    have eS : rOr (sureR N t m) = .tuple ((List.range t.length).map fun p => if lowI N t p = higI N t m p then .int (lowI N t p) else .none) := by
      unfold sureR
      rw [no]
      rfl
    have eM : rOr (meanR N t m p) = ratD (meanS N t m p) (rowsT N t m t.length).length := by
      unfold meanR
      rw [no]
      rfl
    rw [eL, eH, eS, eM] at kA
    have pos : 0 < (rowsT N t m t.length).length := List.length_pos_iff.mpr hne
    have s12 := s.trans s2
    have dM := dpA_ix 7 kA
    have mS : meanS N t m p ≤ 2 ^ 40 := by
      have h1 : meanS N t m p ≤ (rowsT N t m t.length).length * m := sum_le _ fun r hr' => by
        obtain ⟨_, R⟩ := rowsT_iff.mp hr'
        exact R.top p (by rw [rowsT_len hr']; omega)
      have h2 : (rowsT N t m t.length).length * m ≤ 20000 * 9 := Nat.mul_le_mul few' hm
      exact Nat.le_trans h1 (Nat.le_trans h2 (by decide))
    have at_ : ∀ r ∈ rowsT N t m t.length, p < r.length := fun r hr' => by rw [rowsT_len hr']; omega
    refine wss_cons (ws_ifY (k := false) (YT.is (yt_not (yt_val (ye_call (DA 1) (hr.mono (by decide)) pass0 (ya_cons (yv 19 dM) (ya_cons (ye_call D1 (hr.mono (by decide)) pass0 (ya_cons (YE.is (ye_callB (cd_sum (ns := ((rowsT N t m t.length).map fun r => r.getD p 0).map fun (x : Nat) => (x : Int)) rfl) T.sum (by decide +kernel) (ya_cons (YL.ye (YL.is (yl_comp (own := [("_law_some", 11)]) rfl scLaw.nd (src_list (yv 10 dR)) (blkOk_by (N := nLaw) (sc := defScope (topS 50)) (by decide +kernel)) (by rw [List.length_map]; omega) (gAt p) fun d hd => ?_) ?_)) ya_nil)) (congrArg PyData.int (sum_cast _))) (ya_cons (YE.is (ye_callB cd_lenL T.len PySem.boot_len (ya_cons (yv 10 dR) ya_nil)) (by rw [List.length_map])) ya_nil)) ⟨meanS N t m p, (rowsT N t m t.length).length, rfl, pos, few', mS, rfl⟩) ya_nil)) ⟨_, _, true, rfl, al_rat, al_rat, ⟨fun _ => rfl, fun _ => rfl⟩, rfl⟩))) rfl) s12 (fun e => nomatch e) fun _ H3 s3 => wss_nil ?_)
    · obtain ⟨r, hr', rfl⟩ := List.mem_map.mp hd
      refine tn1 11 scLaw.nd (fun _ => rfl) (fun F1 u s du s0 H0 C cl fp => ?_) (fun _ _ _ _ _ => pg_name (i := 11) scLaw.nd rfl (Or.inl rfl))
      exact YE.is (ye_ixT (yv 11 du) (yv 16 (Dp.int _)) (atN rfl (rw_at (at_ r hr')))) (gAt_rw (at_ r hr')).symm
    · rw [List.map_map, List.map_map, List.map_map]
      refine List.map_congr_left fun r hr' => ?_
      exact gAt_rw (at_ r hr')
    · have s13 := s12.trans s3
      -- ends
      have e20 : (rngD 0 N.n).map (gEnd N t m) = (List.range t.length).map fun i => .list ((endL N t m i).map PyData.int) := by
        unfold rngD
        rw [List.map_map, tl]
        refine List.map_congr_left fun i _ => ?_
        show gEnd N t m (.int ((0 + i : Nat) : Int)) = _
        rw [Nat.zero_add]
        show PyData.list ((endL N t m ((i : Int)).toNat).map PyData.int) = _
        rw [Int.toNat_natCast]
      refine wss_cons (ws_setLc (own := [("_law_at", 12)]) 20 rfl scLaw.nd s13 (src_rng1 (n := N.n) T.range (ya_cons (yv 3 (Dp.int _)) ya_nil) (by omega)) (blkOk_by (N := nLaw) (sc := defScope (topS 50)) (by decide +kernel)) (by rw [rngD_len]; omega) (gEnd N t m) (fun d hd => ?_) (fun ep es F4 H4 n4' hep fep eep de => ?_) (sw_true rfl rfl rfl (by decide +kernel)))
      · obtain ⟨i, hi, rfl⟩ := rngD_mem hd
        refine tn1 12 scLaw.nd (fun _ => rfl) (fun F1 u s du s0 H0 C cl fp => ?_) (fun _ _ _ _ _ => pg_name (i := 12) scLaw.nd rfl (Or.inr rfl))
        have ai : ∀ r ∈ rowsT N t m t.length, i < r.length := fun r hr' => by rw [rowsT_len hr']; omega
        refine YE.is (YL.ye (yl_comp (own := [("_law_some", 11)]) rfl scLaw.nd (src_list (yv 10 (Dpx dR s))) (blkOk_by (N := nLaw) (sc := relS _ (defScope (topS 50))) (by decide +kernel)) (by rw [List.length_map]; omega) (gAt i) fun d hd => ?_)) ?_
        · obtain ⟨r, hr', rfl⟩ := List.mem_map.mp hd
          refine tn1 11 scLaw.nd (fun _ => rfl) (fun F1 u s' du' s0 H0 C cl fp => ?_) (fun _ _ _ _ _ => pg_name (i := 11) scLaw.nd rfl (Or.inl rfl))
          exact YE.is (ye_ixT (yv 11 du') (yv 12 (Dpx du s')) (atN (j := i) (by omega) (rw_at (ai r hr')))) (gAt_rw (ai r hr')).symm
        · show PyData.list _ = PyData.list ((endL N t m (((0 + i : Nat) : Int)).toNat).map PyData.int)
          rw [Int.toNat_natCast, Nat.zero_add]
          congr 1
          unfold endL
          rw [List.map_map, List.map_map]
          refine List.map_congr_left fun r hr' => ?_
          exact gAt_rw (ai r hr')
      rw [e20] at de
      have nL := n4'.learn hep eep fep
      have dE : Dp K (upd F4 ep (.lst es)) (.ref ep) (.list ((List.range t.length).map fun i => .list ((endL N t m i).map PyData.int))) := .lst (sqL_of upd_same) (DpAx de (same_new fep))
      generalize upd F4 ep (.lst es) = F5 at nL dE
      have kA5 := DpAx kA nL.f
      have dL := dpA_ix 4 kA5
      have dH := dpA_ix 5 kA5
      have dS := dpA_ix 6 kA5
      have nE : ∀ i, endL N t m i ≠ [] := fun i z => by
        unfold endL at z
        exact hne (List.map_eq_nil_iff.mp z)
      have eMin : ((List.range t.length).map fun i => PyData.list ((endL N t m i).map PyData.int)).map gMin = (List.range t.length).map fun p => .int (lowI N t p) := by
        rw [List.map_map]
        refine List.map_congr_left fun i hi => ?_
        show PyData.int (mnI (((endL N t m i).map PyData.int).map toI)) = _
        rw [toI_map, end_min ok tk no (List.mem_range.mp hi)]
      have eMax : ((List.range t.length).map fun i => PyData.list ((endL N t m i).map PyData.int)).map gMax = (List.range t.length).map fun p => .int (higI N t m p) := by
        rw [List.map_map]
        refine List.map_congr_left fun i hi => ?_
        show PyData.int (mxI (((endL N t m i).map PyData.int).map toI)) = _
        rw [toI_map, end_max ok tk no (List.mem_range.mp hi)]
      have eIf : ((List.range t.length).map fun i => PyData.list ((endL N t m i).map PyData.int)).map gIf = (List.range t.length).map fun p => if lowI N t p = higI N t m p then .int (lowI N t p) else .none := by
        rw [List.map_map]
        refine List.map_congr_left fun i hi => ?_
        show (if mnI (((endL N t m i).map PyData.int).map toI) = mxI (((endL N t m i).map PyData.int).map toI) then PyData.int (mnI (((endL N t m i).map PyData.int).map toI)) else .none) = _
        rw [toI_map, end_min ok tk no (List.mem_range.mp hi), end_max ok tk no (List.mem_range.mp hi)]
      have lE : ((List.range t.length).map fun i => PyData.list ((endL N t m i).map PyData.int)).length ≤ 90000 := by
        rw [List.length_map, List.length_range]
        omega
      refine wss_cons (ws_ifY (k := false) (YT.is (yt_not (yt_val (ye_call (DA 2) (hr.mono (by decide)) pass0 (ya_cons (YL.ye (yl_lst (ds := [_, _]) (ya_cons (yv 13 dL) (ya_cons (yv 14 dH) ya_nil)))) (ya_cons (YL.ye (yl_lst (ds := [_, _]) (ya_cons (ye_callTy cd_tuple T.tuple PyProof.Rows.boot_tuple (ya_cons (YL.ye (YL.is (yl_comp (own := [("_law_some", 11)]) rfl scLaw.nd (src_list (yv 20 dE)) (blkOk_by (N := nLaw) (sc := defScope (topS 50)) (by decide +kernel)) lE gMin fun d hd => ?_) eMin)) ya_nil)) (ya_cons (ye_callTy cd_tuple T.tuple PyProof.Rows.boot_tuple (ya_cons (YL.ye (YL.is (yl_comp (own := [("_law_some", 11)]) rfl scLaw.nd (src_list (yv 20 dE)) (blkOk_by (N := nLaw) (sc := defScope (topS 50)) (by decide +kernel)) lE gMax fun d hd => ?_) eMax)) ya_nil)) ya_nil)))) ya_nil)) ⟨_, _, true, rfl, ?_, ?_, ⟨fun _ => rfl, fun _ => rfl⟩, rfl⟩))) rfl) nL.i (fun e => nomatch e) fun _ H6 s6 => wss_nil ?_)
      · obtain ⟨i, hi, rfl⟩ := List.mem_map.mp hd
        refine tn1 11 scLaw.nd (fun _ => rfl) (fun F1 u s du s0 H0 C cl fp => ?_) (fun _ _ _ _ _ => pg_name (i := 11) scLaw.nd rfl (Or.inl rfl))
        exact YE.is (ye_callB (cd_minL rfl (nE i)) T.min PyProof.Rows.boot_min (ya_cons (yv 11 du) ya_nil)) (by show _ = PyData.int (mnI (((endL N t m i).map PyData.int).map toI)); rw [toI_map])
      · obtain ⟨i, hi, rfl⟩ := List.mem_map.mp hd
        refine tn1 11 scLaw.nd (fun _ => rfl) (fun F1 u s du s0 H0 C cl fp => ?_) (fun _ _ _ _ _ => pg_name (i := 11) scLaw.nd rfl (Or.inl rfl))
        exact YE.is (ye_callB (cd_maxL rfl (nE i)) T.max PyProof.Rows.boot_max (ya_cons (yv 11 du) ya_nil)) (by show _ = PyData.int (mxI (((endL N t m i).map PyData.int).map toI)); rw [toI_map])
      · refine Al.lst (n := 8) (by show 2 ≤ 20000; decide) fun x hx => ?_
        rcases List.mem_cons.mp hx with e | e
        · rw [e]; exact al_map (n := 7) (by omega) fun i => .int
        · rw [List.mem_singleton.mp e]; exact al_map (n := 7) (by omega) fun i => .int
      · refine Al.lst (n := 1) (by show 2 ≤ 20000; decide) fun x hx => ?_
        rcases List.mem_cons.mp hx with e | e
        · rw [e]; exact al_map (n := 0) (by omega) fun i => .int
        · rw [List.mem_singleton.mp e]; exact al_map (n := 0) (by omega) fun i => .int
      · have aI : ∀ {n : Nat} (i : Nat), Al n (if lowI N t i = higI N t m i then PyData.int (lowI N t i) else .none) := fun i => by
          split
          · exact .int
          · exact .non
        refine wss_one (ws_ret (YE.w (d := .bool true) (ye_call (DA 1) (hr.mono (by decide)) pass0 (ya_cons (yv 15 dS) (ya_cons (ye_callTy cd_tuple T.tuple PyProof.Rows.boot_tuple (ya_cons (YL.ye (YL.is (yl_comp (own := [("_law_some", 11)]) rfl scLaw.nd (src_list (yv 20 dE)) (blkOk_by (N := nLaw) (sc := defScope (topS 50)) (by decide +kernel)) lE gIf fun d hd => ?_) eIf)) ya_nil)) ya_nil)) ⟨_, _, true, rfl, al_map (n := 8) (by omega) aI, al_map (n := 0) (by omega) aI, ⟨fun _ => rfl, fun _ => rfl⟩, rfl⟩) (nL.i.trans s6) fun v F7 H7 n7 dv => by
          cases dp_bl dv
          exact q H7))
        obtain ⟨i, hi, rfl⟩ := List.mem_map.mp hd
        refine tn1 11 scLaw.nd (fun _ => rfl) (fun F1 u s du s0 H0 C cl fp => ?_) (fun _ _ _ _ _ => pg_name (i := 11) scLaw.nd rfl (Or.inl rfl))
        have e1 : gIf (PyData.list ((endL N t m i).map PyData.int)) = if mnI (endL N t m i) = mxI (endL N t m i) then PyData.int (mnI (endL N t m i)) else .none := by
          show (if mnI (((endL N t m i).map PyData.int).map toI) = mxI (((endL N t m i).map PyData.int).map toI) then PyData.int (mnI (((endL N t m i).map PyData.int).map toI)) else .none) = _
          rw [toI_map]
        rw [e1]
        refine ye_if (yt_cmp od_eqI (ye_callB (cd_minL rfl (nE i)) T.min PyProof.Rows.boot_min (ya_cons (yv 11 du) ya_nil)) (ye_callB (cd_maxL rfl (nE i)) T.max PyProof.Rows.boot_max (ya_cons (yv 11 du) ya_nil))) (fun e => ?_) fun e => ?_
        · exact YE.is (ye_callB (cd_minL rfl (nE i)) T.min PyProof.Rows.boot_min (ya_cons (yv 11 du) ya_nil)) (if_pos (of_decide_eq_true e)).symm
        · exact YE.is ye_non (if_neg (of_decide_eq_false e)).symm
end
end K10
set_option Elab.async false
set_option linter.all false
set_option maxRecDepth 100000
set_option maxHeartbeats 4000000
/-! What the law's middle asks. -/
namespace K10
open PySem PySem.Spec PyProof.Rows L2

section
variable {X : Cx} {σ : L2.St} {F H : Hp}
theorem od_notInT {o : Option Nat} {h : Nat} : OpD X (compareOp .NotIn) (optD o) (.list [.none, .int (h : Int)]) (.bool (!(match o with | some a => decide (a = h) | none => true))) := ⟨_, op_notIn_seq, fun F H x y Q s dx dy q => by
  obtain ⟨p, xs, rfl, hS, hA⟩ := dp_lst dy
  obtain ⟨u1, u2, rfl, a1, a2⟩ := dpA2 hA
  cases dp_non a1
  cases dp_int a2
  cases o with
  | none =>
    cases dp_non dx
    exact ⟨p, _, rfl, .inl (sqL_at (s p) hS), rfl, rfl, q _ F H (Nw.refl s) (.bl _)⟩
  | some a =>
    cases dp_int dx
    refine ⟨p, _, rfl, .inl (sqL_at (s p) hS), rfl, rfl, ?_⟩
    have e : (!inV (.int (a : Int)) [.non, .int (h : Int)]) = !decide (a = h) := by
      show (!(((h : Int) == (a : Int)) || false)) = _
      rw [Bool.or_false]
      congr 1
      by_cases z : a = h
      · subst z; simp
      · rw [decide_eq_false z]; exact beq_false_of_ne (by omega)
    show Q (.bl (!inV (.int (a : Int)) [.non, .int (h : Int)])) H
    rw [e]
    exact q _ F H (Nw.refl s) (.bl _)⟩
theorem we_triedX {C c P l a : Addr} {k kk n : Nat} {x : Str} {r : Option PyData} {ps : List Str} {G : List PyData → Option PyData → Prop} {e : Expr} {es : List Expr} {ds : List PyData} {params : Arguments} {scope : Scope} {p lpos pos p2 p3 : Pos} {Q : VK}
    (A : At X.K X.mg "_law_tried" (topS 48) ["_law_work"]) (R : NoR X.K X.mg C) (TB : LamX.TabB X.base X.mg c P) (hcode : X.env.code = .ref c) (hr : Room (k + 2) X.A) (L : LS X.K l a P (X.env.qual ++ "<lambda>") F H)
    (D : Dn X.prog X.w X.K X.mg X.base x kk (L2.CX X.prog X.w) ps (PuX X.K n C G)) (hk : kk ≤ k) (ha : ∀ (A : Around) (outer : List Env) (s : Shared) (H0 : Hp) (E : XK) (f c' : Addr), YA (LamX.lamCx X A outer s H0 E scope f c') (e :: es) σ (nt F) ds) (hG : G ds r)
    (h : ∀ v F' H', LS X.K l a P (X.env.qual ++ "<lambda>") F' H' → Same (nt F) F' → Dp X.K F' v (rOr r) → Q v H')
    (Lm : LamX.LamS X.env.scope scope) (hgx : scope.names.lookup x = some .globalImplicit := by rfl) (hn : ds.length = n := by rfl) (hdb : (x == ("__debug__" : Str)) = false := by decide)
    (hs : ∀ env, starEach (e :: es) env = (false, eval e env) :: starEach es env := by intros; rfl) (hpl : ∀ env, (backTo p3 (starEach es env)).any (·.1) = false := by intros; rfl)
    (hg : Gl X "_law_tried" := by rfl) (hdef : defaultsOf params X.env = ([], []) := by rfl)
    (hbind : ∀ (q : Str) (cl : List (Str × Addr)) (pm cv ctv : Value), bindArgs (PySem.W.kla_fn "<lambda>" q params (.Call (.Name x p2) (e :: es) [] p3) scope cl pm cv ctv) ⟨[], []⟩ = pure [] := by intros; rfl) :
    WE X (.Call (.Name "_law_tried" p) [.Lambda params (.Call (.Name x p2) (e :: es) [] p3) scope lpos] [] pos) σ H Q := by
  refine we_tried A R.g TB hcode hr L.tabs (fun H1 e1 T1 Q' hQ A' outer' s' H0' f' c' hr' => ?_) Lm hg hdef hbind
  have L1 := L.lam e1 T1
  refine we_callX (X := LamX.lamCx X A' outer' s' H0' _ scope f' c') D (hr'.mono hk) (passes_call (takes_of rfl rfl rfl rfl) fun _ _ _ _ h => h) (ha A' outer' s' H0' _ f' c') hG L1.S.i (fun d e v F' H' n dv => ?_) (fun e H' s' => ⟨true, R.e, fun _ => ?_, fun z => nomatch z⟩) hn hgx hdb (hs _) (hpl _)
  · refine hQ v H' (h v F' H' (L1.nw n) n.f ?_)
    rw [e]
    exact dv
  · refine h _ (nt F) H' (L1.nw (Nw.hop L1.S.i s')) (Same.refl _) ?_
    rw [e]
    exact .str _
end
def prD (N : Net) (t : Told) : PyData := .list ((prs N t).map fun p => pairD (some p))
theorem sh_pr (N : Net) (t : Told) : Sh 2 (prD N t) := sh_lst fun x hx => by
  obtain ⟨p, _, rfl⟩ := List.mem_map.mp hx
  exact sh_tup fun y hy => by
    rcases List.mem_cons.mp hy with e | e
    · rw [e]; exact sh_int
    · rw [List.mem_singleton.mp e]; exact sh_int
theorem al_pair {n : Nat} (o : Option (Nat × Nat)) : Al (n + 1) (pairD o) := by
  cases o with
  | none => exact .non
  | some p =>
    exact Al.tup (by show 2 ≤ 20000; decide) fun y hy => by
      rcases List.mem_cons.mp hy with e | e
      · rw [e]; exact .int
      · rw [List.mem_singleton.mp e]; exact .int
theorem prs_some (N : Net) (t : Told) : (prs N t).isEmpty = !(clashO N t).isSome := by
  rw [← prs_head]
  cases prs N t <;> rfl
theorem sh_low (N : Net) (t : Told) : Sh 1 (rOr (lowR N t)) := by
  unfold lowR
  split
  · exact sh_str
  · exact sh_tup fun x hx => by
      obtain ⟨i, _, rfl⟩ := List.mem_map.mp hx
      exact sh_int
theorem sh_hig (N : Net) (t : Told) (m : Nat) : Sh 1 (rOr (higR N t m)) := by
  unfold higR
  split
  · exact sh_str
  · exact sh_tup fun x hx => by
      obtain ⟨i, _, rfl⟩ := List.mem_map.mp hx
      exact sh_int
theorem low_none (N : Net) (t : Told) : PyData.eqv (rOr (lowR N t)) (.str "none") = (clashO N t).isSome := by
  unfold lowR
  cases (clashO N t).isSome with
  | true => exact eqv_str
  | false => exact eqv_tup _
theorem hig_none (N : Net) (t : Told) (m : Nat) : PyData.eqv (rOr (higR N t m)) (.str "none") = noR N t m := by
  unfold higR
  cases noR N t m with
  | true => exact eqv_str
  | false => exact eqv_tup _
def fMt (t : Told) (r : List Nat) : PyData → Bool
  | .int i => !tm t i.toNat (r.getD i.toNat 0)
  | _ => false
theorem mt_off {t : Told} {r : List Nat} {k : Nat} (hk : r.length = k) : (((rngD 0 k).filter (fMt t r)).map id).isEmpty = mt t r := by
  subst hk
  rw [List.map_id, Bool.eq_iff_iff, List.isEmpty_iff, List.filter_eq_nil_iff]
  unfold mt
  rw [List.all_eq_true]
  constructor
  · intro z i hi
    have hi := List.mem_range.mp hi
    have := z _ (List.mem_of_getElem? (rngD_at (lo := 0) hi))
    change ¬ ((!tm t (((0 + i : Nat) : Int)).toNat (r.getD (((0 + i : Nat) : Int)).toNat 0)) = true) at this
    rw [Int.toNat_natCast, Nat.zero_add] at this
    simpa using this
  · intro z d hd
    obtain ⟨i, hi, rfl⟩ := rngD_mem hd
    have := z i (List.mem_range.mpr hi)
    show ¬ ((!tm t (((0 + i : Nat) : Int)).toNat (r.getD (((0 + i : Nat) : Int)).toNat 0)) = true)
    rw [Int.toNat_natCast, Nat.zero_add, this]
    decide
def fRow (t : Told) : PyData → Bool
  | .tuple l => mt t (l.map fun d => (toI d).toNat)
  | _ => false
theorem fRow_rw (t : Told) (r : List Nat) : fRow t (rwD r) = mt t r := by
  show mt t ((r.map fun (h : Nat) => PyData.int h).map fun d => (toI d).toNat) = mt t r
  rw [List.map_map]
  congr 1
  refine (List.map_congr_left fun h _ => ?_).trans (List.map_id r)
  show ((h : Int)).toNat = h
  exact Int.toNat_natCast h
theorem rows_keep (N : Net) (t : Told) (m k : Nat) : ((((rowsT N [] m k).map rwD).filter (fRow t)).map id) = (rowsT N t m k).map rwD := by
  rw [List.map_id, List.filter_map, ← rows_mt N t m k]
  congr 1
  exact List.filter_congr fun r _ => fRow_rw t r
def gCnt (rs : List (List Nat)) (p : Nat) : PyData → PyData
  | .int h => .int (cntN rs p h.toNat : Nat)
  | _ => .none
def fAt (p h : Nat) : PyData → Bool
  | .tuple l => decide (toI (l.getD p .none) = h)
  | _ => false
theorem fAt_rw {p h : Nat} {r : List Nat} (hp : p < r.length) : fAt p h (rwD r) = decide (r.getD p 0 = h) := by
  show decide (toI ((r.map fun (h : Nat) => PyData.int h).getD p .none) = h) = _
  rw [List.getD_eq_getElem?_getD, rw_at hp]
  show decide (((r.getD p 0 : Nat) : Int) = (h : Int)) = _
  exact decide_eq_decide.mpr (by omega)
theorem cnt_len {rs : List (List Nat)} {p h : Nat} (hp : ∀ r ∈ rs, p < r.length) : ((((rs.map rwD).filter (fAt p h)).map id)).length = cntN rs p h := by
  rw [List.length_map, List.filter_map, List.length_map]
  unfold cntN
  congr 1
  exact List.filter_congr fun r hr => fAt_rw (hp r hr)
end K10
set_option Elab.async false
set_option linter.all false
set_option maxRecDepth 100000
set_option maxHeartbeats 4000000
/-! The law's 17th statement. -/
namespace K10
open PySem PySem.Spec PyProof.Rows L2
section
variable {P : Program} {w : World} {K : PySem.W.Frag} {mg : Str → Option Value} {base : Heap} {f : Addr} {A : Around} {outer : List Env} {s0 : Shared} {H0 : Hp} {E : XK}
theorem law_17 (T : Top K mg) {C : Addr} (R : NoR K mg C) {N : Net} (ok : N.Ok) {t : Told} (tk : TOk N t) {m : Nat} (hm : m ≤ 9) (few : (m + 1) ^ t.length ≤ 20000) {cL PL l a : Addr} (TB : LamX.TabB base mg cL PL) {D : Ends} (hr : Room 8 (LX P w K mg base f (.ref cL) A outer s0 H0 E).A) (q : ∀ H', D.rt (.bl true) H') {p : Nat} (hp : p < N.n) {F11 H13 : Hp} (L13 : LS K l a PL ((LX P w K mg base f (.ref cL) A outer s0 H0 E).env.qual ++ ("<lambda>" : Str)) F11 H13) {vnet vfar vt vpairs vrp vl vg vs : V} {x0 x8 x9 x11 x12 x17 x18 x19 x20 : Option V}
    (kG : DpAll K F11 [vnet, vfar, vt, vpairs, vrp, vl, vg, vs] [netD N, matD N.n (dist N), tlD t, prD N t, rsD (rowsT N t m t.length), rOr (lowR N t), rOr (higR N t m), rOr (sureR N t m)]) :
    WSs (LX P w K mg base f (.ref cL) A outer s0 H0 E) ((defBody (topS 50)).drop 17) D [x0, some (.ref l), some vnet, some (.int N.n), some vfar, some (.int m), some vt, some vpairs, x8, x9, some vrp, x11, x12, some vl, some vg, some vs, some (.int p), x17, x18, x19, x20] H13 := by
  have D9 := ok_mean (P := P) (w := w) (base := base) T R
  have n4 := ok.n4
  have n1 := ok.n1
  have tl := tk.len
  have few' := rowsT_few' (N := N) (t := t) (m := m) (Nat.le_refl t.length) few
  have hu := hr.units
  -- 17
  refine wss_cons (ws_set 19 scLaw.nd (we_triedX (k := 6) T.aTried R TB rfl hr L13 D9 (by decide) (fun A' o' s' H' E' f' c' => ya_cons (yv 2 (dpA_ix 0 (dpA_nt _ _ kG))) (ya_cons (yv 6 (dpA_ix 2 (dpA_nt _ _ kG))) (ya_cons (yv 5 (Dp.int _)) (ya_cons (yv 16 (Dp.int _)) ya_nil)))) ⟨N, t, m, p, rfl, ok, tk, by omega, hp, few, (fun no => List.length_pos_iff.mpr fun z => by rw [(rows_nil ok tk).mp z] at no; cases no), rfl⟩ (fun vm F14 H14 L14 s14 dm => ?_) (LamX.lamS_by (sc := defScope (topS 50)) (by decide +kernel))))
  have kH := DpAx (dpA_nt _ _ kG) s14
  exact law_c T ok tk hm few hp L14.S.i hr q (.cons (dpA_ix 0 kH) (.cons (dpA_ix 1 kH) (.cons (dpA_ix 2 kH) (.cons (dpA_ix 4 kH) (.cons (dpA_ix 5 kH) (.cons (dpA_ix 6 kH) (.cons (dpA_ix 7 kH) (.cons dm .nil))))))))
end
end K10
set_option Elab.async false
set_option linter.all false
set_option maxRecDepth 100000
set_option maxHeartbeats 4000000
/-! The law's statements 14 to 16. -/
namespace K10
open PySem PySem.Spec PyProof.Rows L2
section
variable {P : Program} {w : World} {K : PySem.W.Frag} {mg : Str → Option Value} {base : Heap} {f : Addr} {A : Around} {outer : List Env} {s0 : Shared} {H0 : Hp} {E : XK}
theorem law_14 (T : Top K mg) {C : Addr} (R : NoR K mg C) {N : Net} (ok : N.Ok) {t : Told} (tk : TOk N t) {m : Nat} (hm : m ≤ 9) (few : (m + 1) ^ t.length ≤ 20000) {cL PL l a : Addr} (TB : LamX.TabB base mg cL PL) {D : Ends} (hr : Room 8 (LX P w K mg base f (.ref cL) A outer s0 H0 E).A) (q : ∀ H', D.rt (.bl true) H') {F8 H9 : Hp} (L9 : LS K l a PL ((LX P w K mg base f (.ref cL) A outer s0 H0 E).env.qual ++ ("<lambda>" : Str)) F8 H9) {vnet vfar vt vpairs vrp vl vg vs : V} {x0 x8 x9 x11 x12 x16 x17 x18 x19 x20 : Option V}
    (kE : DpAll K F8 [vnet, vfar, vt, vpairs, vrp, vl, vg, vs] [netD N, matD N.n (dist N), tlD t, prD N t, rsD (rowsT N t m t.length), rOr (lowR N t), rOr (higR N t m), rOr (sureR N t m)]) :
    WSs (LX P w K mg base f (.ref cL) A outer s0 H0 E) ((defBody (topS 50)).drop 14) D [x0, some (.ref l), some vnet, some (.int N.n), some vfar, some (.int m), some vt, some vpairs, x8, x9, some vrp, x11, x12, some vl, some vg, some vs, x16, x17, x18, x19, x20] H9 := by
  have DA := ok_alike (P := P) (w := w) (base := base) T
  have D7 := ok_taken (P := P) (w := w) (base := base) T
  have D8 := ok_heights (P := P) (w := w) (base := base) T
  have n4 := ok.n4
  have n1 := ok.n1
  have tl := tk.len
  have few' := rowsT_few' (N := N) (t := t) (m := m) (Nat.le_refl t.length) few
  have hu := hr.units
  -- 14
  refine wss_cons (ws_set 16 scLaw.nd (SE.w (l := l) (a := a) (se_call D7 (hr.mono (by decide)) (fun H Q z => we_var 1 z) (ya_cons (yv 3 (Dp.int _)) ya_nil) ⟨N.n, rfl, by omega, by omega, rfl⟩) L9.S fun v d F10 H10 n10 S10 pd dv => ?_))
  obtain ⟨p, hp, rfl⟩ := pd
  cases dp_int dv
  have L10 := L9.nx n10 S10
  have kF := DpAx kE n10.f
  have at_ : ∀ r ∈ rowsT N t m t.length, p < r.length := fun r hr' => by rw [rowsT_len hr']; omega
  -- 15
  refine wss_cons (ws_setLc (own := [("_law_height", 18)]) 17 rfl scLaw.nd L10.S.i (src_rng1 (n := m + 1) T.range (ya_cons (ye_bin od_add (yv 5 (Dp.int _)) ye_int) ya_nil) (by omega)) (blkOk_by (N := nLaw) (sc := defScope (topS 50)) (by decide +kernel)) (by rw [rngD_len]; omega) (gCnt (rowsT N t m t.length) p) (fun d hd => ?_) (fun cp cs F11 H11 n11 hcp fcp ecp dc => ?_) (sw_true rfl rfl rfl (by decide +kernel)))
  · obtain ⟨h, hh, rfl⟩ := rngD_mem hd
    refine tn1 18 scLaw.nd (fun _ => rfl) (fun F1 u s du s0 H0 C cl fp => ?_) (fun _ _ _ _ _ => pg_name (i := 18) scLaw.nd rfl (Or.inr rfl))
    refine YE.is (ye_callB cd_lenL T.len PySem.boot_len (ya_cons (YL.ye (yl_compT (own := [("_law_some", 11)]) rfl scLaw.nd (src_list (yv 10 (Dpx (dpA_ix 4 kF) s))) (blkOk_by (N := nLaw) (sc := relS _ (defScope (topS 50))) (by decide +kernel)) (by rw [List.length_map]; omega) (fAt p h) id fun d hd => ?_)) ya_nil)) ?_
    · obtain ⟨r, hr', rfl⟩ := List.mem_map.mp hd
      refine tn1 11 scLaw.nd (fun _ => rfl) (fun F2 u2 s2 du2 s0 H0 C cl fp => ⟨?_, fun _ => yv 11 du2⟩) (fun _ _ _ _ _ => pg_name (i := 11) scLaw.nd rfl (Or.inl rfl))
      refine YT.is (yt_cmp od_eqI (ye_ixT (yv 11 du2) (yv 16 (Dp.int _)) (atN rfl (rw_at (at_ r hr')))) (yv 18 (Dpx du s2))) ?_
      rw [fAt_rw (at_ r hr')]
      exact decide_eq_decide.mpr (by omega)
    · rw [cnt_len at_]
      show PyData.int _ = PyData.int ((cntN (rowsT N t m t.length) p (((0 + h : Nat) : Int)).toNat : Nat) : Int)
      rw [Int.toNat_natCast, Nat.zero_add]
  have eC : (rngD 0 (m + 1)).map (gCnt (rowsT N t m t.length) p) = (List.range (m + 1)).map fun h => .int (cntN (rowsT N t m t.length) p h : Nat) := by
    unfold rngD
    rw [List.map_map]
    refine List.map_congr_left fun h _ => ?_
    show PyData.int ((cntN (rowsT N t m t.length) p (((0 + h : Nat) : Int)).toNat : Nat) : Int) = _
    rw [Int.toNat_natCast, Nat.zero_add]
  rw [eC] at dc
  have nL11 := n11.learn hcp ecp fcp
  have dC : Dp K (upd F11 cp (.lst cs)) (.ref cp) (.list ((List.range (m + 1)).map fun h => .int (cntN (rowsT N t m t.length) p h : Nat))) := .lst (sqL_of upd_same) (DpAx dc (same_new fcp))
  have L11 := L10.nw nL11
  have kG := DpAx kF nL11.f
  generalize upd F11 cp (.lst cs) = F12 at nL11 dC L11 kG
  -- 16
  refine wss_cons (ws_ifY (k := false) (YT.is (yt_not (yt_val (ye_call (DA 1) (hr.mono (by decide)) pass0 (ya_cons (ye_call D8 (hr.mono (by decide)) pass0 (ya_cons (yv 2 (dpA_ix 0 kG)) (ya_cons (yv 6 (dpA_ix 2 kG)) (ya_cons (yv 5 (Dp.int _)) (ya_cons (yv 16 (Dp.int _)) ya_nil)))) ⟨N, t, m, p, rfl, ok, tk, by omega, hp, few, rfl⟩) (ya_cons (ye_callTy cd_tuple T.tuple PyProof.Rows.boot_tuple (ya_cons (yv 17 dC) ya_nil)) ya_nil)) ⟨_, _, true, rfl, al_map (n := 8) (by omega) fun _ => .int, al_map (n := 0) (by omega) fun _ => .int, ⟨fun _ => rfl, fun _ => rfl⟩, rfl⟩))) rfl) L11.S.i (fun e => nomatch e) fun _ H13 s13 => wss_nil ?_)
  have L13 := L11.nw (Nw.hop L11.S.i s13)
  exact law_17 T R ok tk hm few TB hr q hp L13 kG
end
end K10
set_option Elab.async false
set_option linter.all false
set_option maxRecDepth 100000
set_option maxHeartbeats 4000000
/-! The law's statements 11 to 13. -/
namespace K10
open PySem PySem.Spec PyProof.Rows L2
section
variable {P : Program} {w : World} {K : PySem.W.Frag} {mg : Str → Option Value} {base : Heap} {f : Addr} {A : Around} {outer : List Env} {s0 : Shared} {H0 : Hp} {E : XK}
theorem law_11 (T : Top K mg) {C : Addr} (R : NoR K mg C) {N : Net} (ok : N.Ok) {t : Told} (tk : TOk N t) {m : Nat} (hm : m ≤ 9) (few : (m + 1) ^ t.length ≤ 20000) {cL PL l a : Addr} (TB : LamX.TabB base mg cL PL) {D : Ends} (hr : Room 8 (LX P w K mg base f (.ref cL) A outer s0 H0 E).A) (q : ∀ H', D.rt (.bl true) H') {F6 H6 : Hp} (L6 : LS K l a PL ((LX P w K mg base f (.ref cL) A outer s0 H0 E).env.qual ++ ("<lambda>" : Str)) F6 H6) {vnet vfar vt vpairs vrp vl vg : V} {x0 x8 x9 x11 x12 x15 x16 x17 x18 x19 x20 : Option V}
    (kD : DpAll K F6 [vnet, vfar, vt, vpairs, vrp, vl, vg] [netD N, matD N.n (dist N), tlD t, prD N t, rsD (rowsT N t m t.length), rOr (lowR N t), rOr (higR N t m)]) :
    WSs (LX P w K mg base f (.ref cL) A outer s0 H0 E) ((defBody (topS 50)).drop 11) D [x0, some (.ref l), some vnet, some (.int N.n), some vfar, some (.int m), some vt, some vpairs, x8, x9, some vrp, x11, x12, some vl, some vg, x15, x16, x17, x18, x19, x20] H6 := by
  have DA := ok_alike (P := P) (w := w) (base := base) T
  have D5 := ok_sure (P := P) (w := w) (base := base) T R
  have D6 := ok_number (P := P) (w := w) (base := base) T
  have n4 := ok.n4
  have n1 := ok.n1
  have tl := tk.len
  have few' := rowsT_few' (N := N) (t := t) (m := m) (Nat.le_refl t.length) few
  have hu := hr.units
  have nilE : ∀ {σ : L2.St} {F' : Hp} {p : Pos}, YE (LX P w K mg base f (.ref cL) A outer s0 H0 E) (.List [] p) σ F' (.list []) := YL.ye (yl_lst (ds := []) ya_nil)
  -- 11
  refine wss_cons (ws_ifY (k := false) (YT.is (yw_pt (yw_or (yt_cmp od_neB (ye_cmp (od_eqD hu ((sh_low N t).sh (by decide)) (sh_str.sh (k := 0) (by decide))) (yv 13 (dpA_ix 5 kD)) ye_str) (ye_cmp (od_neD hu ((sh_pr N t).sh (by decide)) (sh_nil.sh (by decide))) (yv 7 (dpA_ix 3 kD)) nilE)) fun _ => yw_or1 (yt_cmp od_neB (ye_cmp (od_eqD hu ((sh_hig N t m).sh (by decide)) (sh_str.sh (k := 0) (by decide))) (yv 14 (dpA_ix 6 kD)) ye_str) (ye_cmp (od_eqD hu ((sh_rs _).sh (by decide)) (sh_nil.sh (by decide))) (yv 10 (dpA_ix 4 kD)) nilE)))) ?_) L6.S.i (fun e => nomatch e) fun _ H7 s7 => wss_nil ?_)
  · rw [low_none, hig_none]
    unfold prD rsD
    rw [eqv_nil, eqv_nil, List.isEmpty_map, List.isEmpty_map, prs_some, Bool.not_not, decide_eq_true rfl]
    have e : (rowsT N t m t.length).isEmpty = noR N t m := by
      rw [Bool.eq_iff_iff, List.isEmpty_iff]
      exact rows_nil ok tk
    rw [e, decide_eq_true rfl]
    rfl
  have L7 := L6.nw (Nw.hop L6.S.i s7)
  -- 12
  refine wss_cons (ws_set 15 scLaw.nd (we_triedX (k := 6) T.aTried R TB rfl hr L7 D5 (by decide) (fun A' o' s' H' E' f' c' => ya_cons (yv 2 (dpA_ix 0 (dpA_nt _ _ kD))) (ya_cons (yv 6 (dpA_ix 2 (dpA_nt _ _ kD))) (ya_cons (yv 5 (Dp.int _)) ya_nil))) ⟨N, t, m, rfl, ok, tk, by omega, rfl⟩ (fun vs F8 H8 L8 s8 ds => ?_) (LamX.lamS_by (sc := defScope (topS 50)) (by decide +kernel))))
  have kE : DpAll K F8 [vnet, vfar, vt, vpairs, vrp, vl, vg, vs] [netD N, matD N.n (dist N), tlD t, prD N t, rsD (rowsT N t m t.length), rOr (lowR N t), rOr (higR N t m), rOr (sureR N t m)] := dpA_app (DpAx (dpA_nt _ _ kD) s8) (dpA_one ds)
  -- 13
  refine wss_cons (ws_ifY (k := false) (YT.is (yt_not (yt_val (ye_call (DA 0) (hr.mono (by decide)) pass0 (ya_cons (ye_call D6 (hr.mono (by decide)) pass0 (ya_cons (yv 2 (dpA_ix 0 kE)) (ya_cons (yv 6 (dpA_ix 2 kE)) (ya_cons (yv 5 (Dp.int _)) ya_nil))) ⟨N, t, m, rfl, ok, tk, by omega, few, rfl⟩) (ya_cons (YE.is (ye_callB cd_lenL T.len PySem.boot_len (ya_cons (yv 10 (dpA_ix 4 kE)) ya_nil)) (by rw [List.length_map])) ya_nil)) ⟨_, _, true, rfl, .int, .int, ⟨fun _ => rfl, fun _ => rfl⟩, rfl⟩))) rfl) L8.S.i (fun e => nomatch e) fun _ H9 s9 => wss_nil ?_)
  have L9 := L8.nw (Nw.hop L8.S.i s9)
  exact law_14 T R ok tk hm few TB hr q L9 kE
end
end K10
set_option Elab.async false
set_option linter.all false
set_option maxRecDepth 100000
set_option maxHeartbeats 4000000
/-! The law's statements 9 and 10. -/
namespace K10
open PySem PySem.Spec PyProof.Rows L2
section
variable {P : Program} {w : World} {K : PySem.W.Frag} {mg : Str → Option Value} {base : Heap} {f : Addr} {A : Around} {outer : List Env} {s0 : Shared} {H0 : Hp} {E : XK}
theorem law_9 (T : Top K mg) {C : Addr} (R : NoR K mg C) {N : Net} (ok : N.Ok) {t : Told} (tk : TOk N t) {m : Nat} (hm : m ≤ 9) (few : (m + 1) ^ t.length ≤ 20000) {cL PL l a : Addr} (TB : LamX.TabB base mg cL PL) {D : Ends} (hr : Room 8 (LX P w K mg base f (.ref cL) A outer s0 H0 E).A) (q : ∀ H', D.rt (.bl true) H') {F4 H3 : Hp} (L3 : LS K l a PL ((LX P w K mg base f (.ref cL) A outer s0 H0 E).env.qual ++ ("<lambda>" : Str)) F4 H3) {vnet vfar vt vpairs vrp : V} {x0 x8 x9 x11 x12 x13 x14 x15 x16 x17 x18 x19 x20 : Option V}
    (kB : DpAll K F4 [vnet, vfar, vt, vpairs, vrp] [netD N, matD N.n (dist N), tlD t, prD N t, rsD (rowsT N t m t.length)]) :
    WSs (LX P w K mg base f (.ref cL) A outer s0 H0 E) ((defBody (topS 50)).drop 9) D [x0, some (.ref l), some vnet, some (.int N.n), some vfar, some (.int m), some vt, some vpairs, x8, x9, some vrp, x11, x12, x13, x14, x15, x16, x17, x18, x19, x20] H3 := by
  have D3 := ok_lowest (P := P) (w := w) (base := base) T R
  have D4 := ok_highest (P := P) (w := w) (base := base) T R
  have n4 := ok.n4
  have n1 := ok.n1
  have tl := tk.len
  have few' := rowsT_few' (N := N) (t := t) (m := m) (Nat.le_refl t.length) few
  have hu := hr.units
  -- 9
  refine wss_cons (ws_set 13 scLaw.nd (we_triedX (k := 6) T.aTried R TB rfl hr L3 D3 (by decide) (fun A' o' s' H' E' f' c' => ya_cons (yv 2 (dpA_ix 0 (dpA_nt _ _ kB))) (ya_cons (yv 6 (dpA_ix 2 (dpA_nt _ _ kB))) ya_nil)) ⟨N, t, rfl, ok, tk, rfl⟩ (fun vl F5 H5 L5 s5 dl => ?_) (LamX.lamS_by (sc := defScope (topS 50)) (by decide +kernel))))
  have kC : DpAll K F5 [vnet, vfar, vt, vpairs, vrp, vl] [netD N, matD N.n (dist N), tlD t, prD N t, rsD (rowsT N t m t.length), rOr (lowR N t)] := dpA_app (DpAx (dpA_nt _ _ kB) s5) (dpA_one dl)
  -- 10
  refine wss_cons (ws_set 14 scLaw.nd (we_triedX (k := 6) T.aTried R TB rfl hr L5 D4 (by decide) (fun A' o' s' H' E' f' c' => ya_cons (yv 2 (dpA_ix 0 (dpA_nt _ _ kC))) (ya_cons (yv 6 (dpA_ix 2 (dpA_nt _ _ kC))) (ya_cons (yv 5 (Dp.int _)) ya_nil))) ⟨N, t, m, rfl, ok, tk, by omega, rfl⟩ (fun vg F6 H6 L6 s6 dg => ?_) (LamX.lamS_by (sc := defScope (topS 50)) (by decide +kernel))))
  have kD : DpAll K F6 [vnet, vfar, vt, vpairs, vrp, vl, vg] [netD N, matD N.n (dist N), tlD t, prD N t, rsD (rowsT N t m t.length), rOr (lowR N t), rOr (higR N t m)] := dpA_app (DpAx (dpA_nt _ _ kC) s6) (dpA_one dg)
  exact law_11 T R ok tk hm few TB hr q L6 kD
end
end K10
set_option Elab.async false
set_option linter.all false
set_option maxRecDepth 100000
set_option maxHeartbeats 4000000
/-! The law's statements 7 and 8. -/
namespace K10
open PySem PySem.Spec PyProof.Rows L2
section
variable {P : Program} {w : World} {K : PySem.W.Frag} {mg : Str → Option Value} {base : Heap} {f : Addr} {A : Around} {outer : List Env} {s0 : Shared} {H0 : Hp} {E : XK}
theorem law_7 (T : Top K mg) {C : Addr} (R : NoR K mg C) {N : Net} (ok : N.Ok) {t : Told} (tk : TOk N t) {m : Nat} (hm : m ≤ 9) (few : (m + 1) ^ t.length ≤ 20000) {cL PL l a : Addr} (TB : LamX.TabB base mg cL PL) {D : Ends} (hr : Room 8 (LX P w K mg base f (.ref cL) A outer s0 H0 E).A) (q : ∀ H', D.rt (.bl true) H') {F H : Hp} (L : LS K l a PL ((LX P w K mg base f (.ref cL) A outer s0 H0 E).env.qual ++ ("<lambda>" : Str)) F H) {vnet vfar vt vpairs : V} {x0 x8 x9 x10 x11 x12 x13 x14 x15 x16 x17 x18 x19 x20 : Option V}
    (kA : DpAll K F [vnet, vfar, vt, vpairs] [netD N, matD N.n (dist N), tlD t, prD N t]) :
    WSs (LX P w K mg base f (.ref cL) A outer s0 H0 E) ((defBody (topS 50)).drop 7) D [x0, some (.ref l), some vnet, some (.int N.n), some vfar, some (.int m), some vt, some vpairs, x8, x9, x10, x11, x12, x13, x14, x15, x16, x17, x18, x19, x20] H := by
  have DA := ok_alike (P := P) (w := w) (base := base) T
  have D1 := ok_clash (P := P) (w := w) (base := base) T
  have D2 := ok_slopes (P := P) (w := w) (base := base) T
  have n4 := ok.n4
  have n1 := ok.n1
  have tl := tk.len
  have few' := rowsT_few' (N := N) (t := t) (m := m) (Nat.le_refl t.length) few
  have hu := hr.units
  have fewN : (m + 1) ^ N.n ≤ 20000 := by rw [← tl]; exact few
  have nilE : ∀ {σ : L2.St} {F' : Hp} {p : Pos}, YE (LX P w K mg base f (.ref cL) A outer s0 H0 E) (.List [] p) σ F' (.list []) := YL.ye (yl_lst (ds := []) ya_nil)
  -- 7
  refine wss_cons (ws_ifY (k := false) (YT.is (yt_not (yt_val (ye_call (DA 1) (hr.mono (by decide)) pass0 (ya_cons (ye_call D1 (hr.mono (by decide)) pass0 (ya_cons (yv 2 (dpA_ix 0 kA)) (ya_cons (yv 6 (dpA_ix 2 kA)) ya_nil)) ⟨N, t, rfl, ok, tk, rfl⟩) (ya_cons (d := pairD (clashO N t)) (ye_if (k := !(prs N t).isEmpty) (YT.is (yt_cmp (od_neD hu ((sh_pr N t).sh (by decide)) (sh_nil.sh (by decide))) (yv 7 (dpA_ix 3 kA)) nilE) ?_) (fun e => ?_) fun e => YE.is ye_non ?_) ya_nil)) ⟨_, _, true, rfl, al_pair _, al_pair _, ⟨fun _ => rfl, fun _ => rfl⟩, rfl⟩))) rfl) L.S.i (fun e => nomatch e) fun _ H2 s2 => wss_nil ?_)
  · unfold prD
    rw [eqv_nil, List.isEmpty_map]
  · rw [← prs_head]
    have d3 := dpA_ix 3 kA
    unfold prD at d3
    cases z : prs N t with
    | nil =>
      rw [z] at e
      cases e
    | cons p ps =>
      rw [z] at d3
      exact ye_ixL (yv 7 d3) ye_int (atN (j := 0) rfl rfl)
  · rw [← prs_head]
    cases z : prs N t with
    | nil => rfl
    | cons p ps =>
      rw [z] at e
      cases e
  have L2' := L.nw (Nw.hop L.S.i s2)
  have d3 := dpA_ix 2 kA
  -- 8
  refine wss_cons (ws_set 10 scLaw.nd (YL.w (YL.is (yl_compT (own := [("_law_some", 11)]) rfl scLaw.nd (src_list (ye_call D2 (hr.mono (by decide)) pass0 (ya_cons (yv 4 (dpA_ix 1 kA)) (ya_cons (yv 5 (Dp.int _)) ya_nil)) ⟨N, m, rfl, ok, by omega, fewN, rfl⟩)) (blkOk_by (N := nLaw) (sc := defScope (topS 50)) (by decide +kernel)) (by rw [List.length_map]; have := rowsT_few' (N := N) (t := []) (m := m) (Nat.le_refl N.n) fewN; omega) (fRow t) id fun d hd => ?_) (rows_keep N t m N.n)) L2'.S.i fun rp rs F3 H3 n3 hrp frp erp dr => ?_))
  · obtain ⟨r, hr', rfl⟩ := List.mem_map.mp hd
    have lr := rowsT_len hr'
    refine tn1 11 scLaw.nd (fun _ => rfl) (fun F1 u s du s0 H0 C cl fp => ⟨?_, fun _ => yv 11 du⟩) (fun _ _ _ _ _ => pg_name (i := 11) scLaw.nd rfl (Or.inr rfl))
    refine YT.is (yt_cmp (od_eqD hu (Sh.sh (k := 1) (sh_lst (k := 0) fun x hx => ?_) (by decide)) (sh_nil.sh (by decide))) (YL.ye (yl_compT (own := [("_law_at", 12)]) rfl scLaw.nd (src_rng1 (n := N.n) T.range (ya_cons (yv 3 (Dp.int _)) ya_nil) (by omega)) (blkOk_by (N := nLaw) (sc := relS _ (defScope (topS 50))) (by decide +kernel)) (by rw [rngD_len]; omega) (fMt t r) id fun d hd => ?_)) (YL.ye (yl_lst (ds := []) ya_nil))) ?_
    · obtain ⟨y, hy, rfl⟩ := List.mem_map.mp hx
      obtain ⟨i, _, rfl⟩ := rngD_mem (List.mem_filter.mp hy).1
      exact sh_int
    · obtain ⟨i, hi, rfl⟩ := rngD_mem hd
      refine tn1 12 scLaw.nd (fun _ => rfl) (fun F2 u2 s2 du2 s0 H0 C cl fp => ⟨?_, fun _ => yv 12 du2⟩) (fun _ _ _ _ _ => pg_name (i := 12) scLaw.nd rfl (Or.inl rfl))
      refine YT.is (yt_cmp (od_notInT (o := t.getD i none) (h := r.getD i 0)) (ye_ixT (yv 6 (Dpx d3 (s.trans s2))) (yv 12 du2) (atN (j := i) (by omega) (tl_at (by omega)))) (YL.ye (yl_lst (ds := [_, _]) (ya_cons ye_non (ya_cons (ye_ixT (yv 11 (Dpx du s2)) (yv 12 du2) (atN (j := i) (by omega) (rw_at (by omega)))) ya_nil))))) ?_
      show (!(match t.getD i none with | some a => decide (a = r.getD i 0) | none => true)) = !tm t (((0 + i : Nat) : Int)).toNat (r.getD (((0 + i : Nat) : Int)).toNat 0)
      rw [Int.toNat_natCast, Nat.zero_add]
      rfl
    · rw [eqv_nil, mt_off lr, fRow_rw]
  rw [← tl] at dr
  have nL3 := n3.learn hrp erp frp
  have dR : Dp K (upd F3 rp (.lst rs)) (.ref rp) (rsD (rowsT N t m t.length)) := .lst (sqL_of upd_same) (DpAx dr (same_new frp))
  have L3 := L2'.nw nL3
  have kA3 := DpAx kA nL3.f
  generalize upd F3 rp (.lst rs) = F4 at nL3 dR L3 kA3
  have kB : DpAll K F4 [vnet, vfar, vt, vpairs, .ref rp] [netD N, matD N.n (dist N), tlD t, prD N t, rsD (rowsT N t m t.length)] := dpA_app kA3 (dpA_one dR)
  exact law_9 T R ok tk hm few TB hr q L3 kB
end
end K10
set_option Elab.async false
set_option linter.all false
set_option maxRecDepth 100000
set_option maxHeartbeats 4000000
/-! The law's statements 0 to 6; the law. -/
namespace K10
open PySem PySem.Spec PyProof.Rows L2

section
variable {K : PySem.W.Frag} {F H : Hp} {l a p P : Addr} {q : Str} {o : HO} {xs ys : List V}
theorem LS.learn (L : LS K l a P q F H) (fp : F p = none) (hp : H p = some o) (ne : p ≠ l) : LS K l a P q (upd F p o) H := by
  refine ⟨⟨same_add L.S.s (by rw [er_ne ne]; exact hp), L.S.v, ?_⟩, L.T⟩
  obtain ⟨ns, h⟩ := L.S.q
  exact ⟨ns, sqL_at (same_new fp a) h⟩
theorem LS.mut (L : LS K l a P q F H) (fp : F p = none) (hp : H p = some (.lst xs)) (ne : p ≠ l) : LS K l a P q F (upd H p (.lst ys)) := by
  obtain ⟨i, sd, rs, hl, hi⟩ := L.S.v
  refine ⟨⟨?_, ⟨i, sd, rs, by rw [upd_ne (fun z => ne z.symm)]; exact hl, hi⟩, L.S.q⟩, fun r hr => ?_⟩
  · rw [er_upd_ne ne]
    exact same_mut L.S.s fp
  · obtain ⟨ps, h1, h2, h3⟩ := L.T r hr
    have nl : ∀ {b : Addr} {o : HO}, er l H b = some o → (∀ xs, o ≠ .lst xs) → er l (upd H p (.lst ys)) b = some o := fun {b o} h hn => by
      have hb : b ≠ p := fun z => by
        rw [z, er_ne ne, hp] at h
        cases h
        exact hn _ rfl
      rw [er_upd_ne ne, upd_ne hb]
      exact h
    refine ⟨ps, nl h1 fun xs z => (by cases z), h2, fun pos cv hc => ?_⟩
    obtain ⟨c, e1, e2⟩ := h3 pos cv hc
    exact ⟨c, e1, nl e2 fun xs z => by unfold LamX.CodeO at z; cases z⟩
end
section
variable {X : Cx} {σ : L2.St} {H : Hp}
theorem YW.is {F : Hp} {e : Expr} {k k1 : Bool} (h : YW X e σ F k) (q : k = k1) : YW X e σ F k1 := q ▸ h
theorem wa_three {e e2 e3 : Expr} {Q : List V → Hp → Prop} (h : WE X e σ H fun x H1 => WE X e2 σ H1 fun y H2 => WE X e3 σ H2 fun z H3 => Q [x, y, z] H3) (hs : starEach [e, e2, e3] X.env = (false, eval e X.env) :: starEach [e2, e3] X.env := by rfl) (hs2 : starEach [e2, e3] X.env = (false, eval e2 X.env) :: starEach [e3] X.env := by rfl) (hs3 : starEach [e3] X.env = (false, eval e3 X.env) :: starEach [] X.env := by rfl) : WA X [e, e2, e3] σ H Q :=
  go_a (pa_cons pe_we (pa_cons pe_we (pa_cons pe_we pa_nil hs3) hs2) hs) h
end
def prR (N : Net) (t : Told) (i k : Nat) : List (Nat × Nat) := (((List.range k).map fun j => i + 1 + j).filter fun j => cl N t i j).map fun j => (i, j)
theorem prR_len (N : Net) (t : Told) (i k : Nat) : (prR N t i k).length ≤ k := by
  unfold prR
  rw [List.length_map]
  have := List.length_filter_le (fun j => cl N t i j) ((List.range k).map fun j => i + 1 + j)
  rw [List.length_map, List.length_range] at this
  exact this
theorem prR_snoc (N : Net) (t : Told) (i k : Nat) : prR N t i (k + 1) = prR N t i k ++ (if cl N t i (i + 1 + k) = true then [(i, i + 1 + k)] else []) := by
  unfold prR
  rw [List.range_succ, List.map_append, List.filter_append, List.map_append]
  congr 1
  show ([i + 1 + k].filter fun j => cl N t i j).map (fun j => (i, j)) = _
  rw [List.filter_cons, List.filter_nil]
  split <;> rfl
def spLaw (K : PySem.W.Frag) (PL : Addr) : Sp := fun vs H Q _ => ∃ (a : Addr) (ns : List Int), vs = [.ref a] ∧ SqL K H a (ns.map V.int) ∧ H PL = some (.tbl #[]) ∧ ∀ H', Q (.bl true) H'
section
variable {P : Program} {w : World} {K : PySem.W.Frag} {mg : Str → Option Value} {base : Heap} {f : Addr} {A : Around} {outer : List Env} {s0 : Shared} {H0 : Hp} {E : XK}
theorem law_5 (T : Top K mg) {C : Addr} (R : NoR K mg C) {N : Net} (ok : N.Ok) {t : Told} (tk : TOk N t) {m : Nat} (hm : m ≤ 9) (few : (m + 1) ^ t.length ≤ 20000) {cL PL l a : Addr} (TB : LamX.TabB base mg cL PL) {D : Ends} (hr : Room 8 (LX P w K mg base f (.ref cL) A outer s0 H0 E).A) (q : ∀ H', D.rt (.bl true) H')
    {F H : Hp} (L : LS K l a PL ((LX P w K mg base f (.ref cL) A outer s0 H0 E).env.qual ++ ("<lambda>" : Str)) F H) {vnet vfar vt : V} {x0 x7 x8 x9 x10 x11 x12 x13 x14 x15 x16 x17 x18 x19 x20 : Option V}
    (kA : DpAll K F [vnet, vfar, vt] [netD N, matD N.n (dist N), tlD t]) :
    WSs (LX P w K mg base f (.ref cL) A outer s0 H0 E) ((defBody (topS 50)).drop 5) D [x0, some (.ref l), some vnet, some (.int N.n), some vfar, some (.int m), some vt, x7, x8, x9, x10, x11, x12, x13, x14, x15, x16, x17, x18, x19, x20] H := by
  have n4 := ok.n4
  have tl := tk.len
  refine wss_cons (ws_set 7 scLaw.nd (YL.w (yl_lst (ds := []) ya_nil) L.S.i fun p xs F2 H2 n2 hp fp ep dA => ?_))
  cases dA
  have L2' := L.nw n2
  have ne : p ≠ l := fun z => L.S.v.ne (z ▸ hp)
  have kA2 := DpAx kA n2.f
  refine wss_cons (ws_for PassesOwn.never rfl (src_rng1 (n := N.n) T.range (ya_cons (yv 3 (Dp.int _)) ya_nil) (by omega)) L2'.S.i fun F3 H3 n3 => ⟨fun i F4 σ4 H4 => Same F3 F4 ∧ LS K l a PL ((LX P w K mg base f (.ref cL) A outer s0 H0 E).env.qual ++ ("<lambda>" : Str)) F4 H4 ∧ F4 p = none ∧ (∃ xs, H4 p = some (.lst xs) ∧ DpAll K F4 xs (((List.range i).flatMap fun i => prR N t i (t.length - (i + 1))).map fun p => pairD (some p))) ∧
      ∃ b c, σ4 = [x0, some (.ref l), some vnet, some (.int N.n), some vfar, some (.int m), some vt, some (.ref p), b, c, x10, x11, x12, x13, x14, x15, x16, x17, x18, x19, x20],
    ⟨Same.refl _, L2'.nw n3, n3.out fp (by rw [ep]; exact fun z => nomatch z), ⟨[], n3.h p _ ep, .nil⟩, _, _, rfl⟩, ?_, ?_, ?_⟩)
  · rintro i F4 σ4 H4 ⟨s, L4, _⟩
    exact ⟨s, L4.S.i⟩
  · rintro i d F4 σ4 H4 F5 H5 u hd ⟨sf, L4, fp4, ⟨xs, ep4, dA4⟩, b, c, rfl⟩ n5 du
    have hi : i < N.n := by
      have := (List.getElem?_eq_some_iff.mp hd).1
      rw [rngD_len] at this
      exact this
    rw [rngD_at hi, Nat.zero_add] at hd
    cases hd
    cases dp_int du
    have L5 := L4.nw n5
    have fp5 : F5 p = none := n5.out fp4 (by rw [ep4]; exact fun z => nomatch z)
    have ep5 := n5.h p _ ep4
    have lenB : xs.length ≤ i * 4 := by
      rw [dpA_len dA4, List.length_map]
      have := flat_few (f := fun i => prR N t i (t.length - (i + 1))) (m := 4) (fun i => Nat.le_trans (prR_len N t i _) (by omega)) (List.range i)
      rw [List.length_range] at this
      exact this
    refine wg_name 8 scLaw.nd ?_
    refine wss_one (ws_for PassesOwn.never rfl (src_rng2 (lo := i + 1) (n := t.length - (i + 1)) T.range (ya_cons (ye_bin od_add (yv 8 (Dp.int _)) ye_int) (ya_cons (YE.is (yv 3 (Dp.int _)) (congrArg PyData.int (by omega))) ya_nil)) (by omega)) L5.S.i fun F6 H6 n6 => ⟨fun j F7 σ7 H7 => Same F6 F7 ∧ LS K l a PL ((LX P w K mg base f (.ref cL) A outer s0 H0 E).env.qual ++ ("<lambda>" : Str)) F7 H7 ∧ F7 p = none ∧ (∃ xs, H7 p = some (.lst xs) ∧ DpAll K F7 xs ((((List.range i).flatMap fun i => prR N t i (t.length - (i + 1))) ++ prR N t i j).map fun p => pairD (some p))) ∧
        ∃ c, σ7 = [x0, some (.ref l), some vnet, some (.int N.n), some vfar, some (.int m), some vt, some (.ref p), some (.int i), c, x10, x11, x12, x13, x14, x15, x16, x17, x18, x19, x20],
      ⟨Same.refl _, L5.nw n6, n6.out fp5 (by rw [ep5]; exact fun z => nomatch z), ⟨xs, n6.h p _ ep5, by
        have e0 : prR N t i 0 = [] := rfl
        rw [e0, List.append_nil]
        exact DpAx dA4 (n5.f.trans n6.f)⟩, _, rfl⟩, ?_, ?_, ?_⟩)
    · rintro j F7 σ7 H7 ⟨s, L7, _⟩
      exact ⟨s, L7.S.i⟩
    · rintro j d F7 σ7 H7 F8 H8 u hd ⟨sf7, L7, fp7, ⟨zs, ep7, dz⟩, c, rfl⟩ n8 du
      have hj : j < t.length - (i + 1) := by
        have := (List.getElem?_eq_some_iff.mp hd).1
        rw [rngD_len] at this
        exact this
      rw [rngD_at hj] at hd
      cases hd
      cases dp_int du
      have hit : i < t.length := by omega
      have hjt : i + 1 + j < t.length := by omega
      have L8 := L7.nw n8
      have fp8 : F8 p = none := n8.out fp7 (by rw [ep7]; exact fun z => nomatch z)
      have ep8 := n8.h p _ ep7
      have lenZ : zs.length ≤ i * 4 + j := by
        rw [dpA_len dz, List.length_map, List.length_append]
        have h1 := prR_len N t i j
        have h2 := dpA_len dA4
        rw [List.length_map] at h2
        omega
      have k8 := DpAx kA2 ((n3.f.trans ((sf.trans n5.f).trans n6.f)).trans (sf7.trans n8.f))
      have dT := dpA_ix 2 k8
      have dM := dpA_ix 1 k8
      refine wg_name 9 scLaw.nd ?_
      refine wss_one (ws_ifY (k := cl N t i (i + 1 + j)) (YT.is (yw_pt (yw_and (k2 := cl N t i (i + 1 + j)) (yt_cmp od_notN (ye_ixT (yv 6 dT) (yv 8 (Dp.int _)) (atN rfl (tl_at hit))) ye_non) fun e1 => YW.is (yw_and (k2 := cl N t i (i + 1 + j)) (yt_cmp od_notN (ye_ixT (yv 6 dT) (yv 9 (Dp.int _)) (atN rfl (tl_at hjt))) ye_non) fun e2 => yw_and1 ?_) ?_)) ?_) L8.S.i (fun hk H9 s9 => ?_) fun hk H9 s9 => wss_nil ⟨F8, sf7.trans n8.f, L8.nw (Nw.hop L8.S.i s9), fp8, ⟨zs, s9 p _ ep8, ?_⟩, _, rfl⟩)
      · cases ea : t.getD i none with
        | none =>
          rw [ea] at e1
          cases e1
        | some x =>
          cases eb : t.getD (i + 1 + j) none with
          | none =>
            rw [eb] at e2
            cases e2
          | some y =>
            have hcl : cl N t i (i + 1 + j) = decide (dist N i (i + 1 + j) < adf x y) := by
              unfold cl
              rw [ea, eb]
            have xa := tl_at hit
            have ya := tl_at hjt
            rw [ea] at xa
            rw [eb] at ya
            refine YT.is (yt_cmp od_gt (YE.is (ye_callB cd_abs T.abs PyProof.Rows.boot_abs (ya_cons (ye_bin od_sub (ye_ixT (yv 6 dT) (yv 8 (Dp.int _)) (atN rfl xa)) (ye_ixT (yv 6 dT) (yv 9 (Dp.int _)) (atN rfl ya))) ya_nil)) (congrArg PyData.int (adf_int x y))) (ye_mat (yv 4 dM) (yv 8 (Dp.int _)) (yv 9 (Dp.int _)) (by omega) (by omega))) ?_
            rw [hcl]
            exact decide_eq_decide.mpr (by omega)
      · unfold cl
        cases t.getD (i + 1 + j) none <;> cases t.getD i none <;> rfl
      · unfold cl
        cases t.getD i none <;> rfl
      · have L9 := L8.nw (Nw.hop L8.S.i s9)
        refine wss_one (ws_expr (we_append L9.S.i fp8 (s9 p _ ep8) (fun Q z => we_var 7 z) (YE.ev (ye_tup (ya_cons (yv 8 (Dp.int _)) (ya_cons (yv 9 (Dp.int _)) ya_nil))) L9.S.i) (by omega) fun u10 F10 H10 n10 fp10 ep10 du10 => ⟨F10, (sf7.trans n8.f).trans n10.f, (L9.nw n10).mut fp10 ep10 ne, fp10, ⟨_, upd_same, ?_⟩, _, rfl⟩))
        rw [prR_snoc, if_pos hk, ← List.append_assoc, List.map_append]
        exact dpA_app (DpAx dz (n8.f.trans n10.f)) (dpA_one du10)
      · rw [prR_snoc, if_neg (by rw [hk]; decide), List.append_nil]
        exact DpAx dz n8.f
    · rintro F7 σ7 H7 ⟨sf7, L7, fp7, ⟨zs, ep7, dz⟩, c, rfl⟩
      rw [rngD_len] at dz
      refine ⟨F7, ((sf.trans n5.f).trans n6.f).trans sf7, L7, fp7, ⟨zs, ep7, ?_⟩, _, _, rfl⟩
      rw [List.range_succ, List.flatMap_append, List.flatMap_cons, List.flatMap_nil, List.append_nil]
      exact dz
  · rintro F4 σ4 H4 ⟨sf, L4, fp4, ⟨xs, ep4, dA4⟩, b, c, rfl⟩
    rw [rngD_len, ← tl] at dA4
    have L5 := L4.learn fp4 ep4 ne
    have k4 := DpAx kA2 ((n3.f.trans sf).trans (same_new (o := .lst xs) fp4))
    have dP : Dp K (upd F4 p (.lst xs)) (.ref p) (prD N t) := .lst (sqL_of upd_same) (DpAx dA4 (same_new fp4))
    exact law_7 T R ok tk hm few TB hr q L5 (dpA_app k4 (dpA_one dP))
theorem most_of {n : Nat} (h1 : 1 ≤ n) (h4 : n ≤ 4) : ∃ m : Nat, m ≤ 9 ∧ (m + 1) ^ n ≤ 20000 ∧ ([PyData.int 9, .int 8, .int 6, .int 5])[n - 1]? = some (.int (m : Int)) := by
  have : n = 1 ∨ n = 2 ∨ n = 3 ∨ n = 4 := by omega
  rcases this with rfl | rfl | rfl | rfl
  · exact ⟨9, by decide, by decide, rfl⟩
  · exact ⟨8, by decide, by decide, rfl⟩
  · exact ⟨6, by decide, by decide, rfl⟩
  · exact ⟨5, by decide, by decide, rfl⟩
theorem law_0 (T : Top K mg) {C : Addr} (R : NoR K mg C) {cL PL a : Addr} (TB : LamX.TabB base mg cL PL) {D : Ends} (hr : Room 8 (LX P w K mg base f (.ref cL) A outer s0 H0 E).A) (q : ∀ H', D.rt (.bl true) H') {H : Hp} {ns : List Int} (hS : SqL K H a (ns.map V.int)) (hP : H PL = some (.tbl #[])) :
    WSs (LX P w K mg base f (.ref cL) A outer s0 H0 E) (defBody (topS 50)) D (L2.start nLaw [.ref a]) H := by
  have D1 := ok_pick (P := P) (w := w) (base := base) T
  have D2 := ok_lnet (P := P) (w := w) (base := base) T
  have D3 := ok_lfar (P := P) (w := w) (base := base) T
  have D4 := ok_toldH (P := P) (w := w) (base := base) T
  have sF : Same (nt H) H := fun b o e => (nt_some e).1
  have hd : Dp K (nt H) (.ref a) (.list (ns.map PyData.int)) := .lst (sqL_nt hS) (ints_dpA ns)
  refine wss_cons (ws_set 1 scLaw.nd (YL.w (yl_lst (ds := [.list (ns.map PyData.int), .int 0, .int 6810, .int 0]) (ya_cons (yv 0 hd) (ya_cons ye_int (ya_cons ye_int (ya_cons ye_int ya_nil))))) sF fun l xs F2 H2 n2 hl fl el dA => ?_))
  obtain ⟨v1, v2, v3, v4, rfl, d1, d2, d3, d4⟩ := dpA4 dA
  cases dp_int d2
  cases dp_int d3
  cases dp_int d4
  obtain ⟨a', xs', rfl, hS', hA'⟩ := dp_lst d1
  rw [dpA_ints hA'] at hS'
  have L : LS K l a' PL ((LX P w K mg base f (.ref cL) A outer s0 H0 E).env.qual ++ ("<lambda>" : Str)) F2 H2 := ⟨⟨er_sub n2.i fl, ⟨0, 6810, 0, el, by decide⟩, ⟨ns, hS'⟩⟩, fun p hp => by
    rw [List.mem_singleton.mp hp]
    refine LamX.TabS.nil ?_
    rw [er_ne (ne_of_none hP hl)]
    exact n2.h PL _ hP⟩
  -- net
  refine wss_cons (ws_set 2 scLaw.nd (we_call D2 (hr.mono (by decide)) pass0 (wa_three (we_var 1 (go_e pe_int (SE.w (l := l) (a := a') (se_call D1 (hr.mono (by decide)) (fun H Q z => we_var 1 z) (ya_cons (YL.ye (yl_lst (ds := [.int 1, .int 2, .int 4]) (ya_cons ye_int (ya_cons ye_int (ya_cons ye_int ya_nil))))) ya_nil) ⟨_, rfl, by decide, by decide, rfl⟩) L.S fun v d F3 H3 n3 S3 pd dv => ?_))))))
  have L3 := L.nx n3 S3
  obtain ⟨lg, rfl, lg1, lg9⟩ : ∃ lg : Nat, d = .int lg ∧ 1 ≤ lg ∧ lg ≤ 9 := by
    rcases List.mem_cons.mp pd with e | e
    · exact ⟨1, e, by decide, by decide⟩
    · rcases List.mem_cons.mp e with e | e
      · exact ⟨2, e, by decide, by decide⟩
      · exact ⟨4, List.mem_singleton.mp e, by decide, by decide⟩
  refine ⟨l, a', [.int 4, v], F3, [.int 4, .int lg], _, rfl, S3, .cons (.int 4) (dpA_one dv), rfl, ⟨lg, rfl, lg1, lg9, rfl⟩, fun vn d F4 H4 n4 S4 pd dn => ?_⟩
  obtain ⟨N, ok, rfl⟩ := pd
  have L4 := L3.nx n4 S4
  have n1 := ok.n1
  have n4' := ok.n4
  -- many, far
  refine wss_cons (ws_asg (go_e (pe_tup pa_wa) (wa_two (YE.w (d := .int N.n) (ye_ixT (yv 2 dn) ye_int (by rfl)) L4.S.i fun vm F5 H5 n5 dm => YE.w (d := matD N.n (dist N)) (ye_call D3 (hr.mono (by decide)) pass0 (ya_cons (yv 2 (Dpx dn n5.f)) ya_nil) ⟨N, rfl, ok, rfl⟩) n5.i fun vf F6 H6 n6 df => ⟨by show 2 ≤ sizeLine; decide, fun tp htp => wg_twoV 3 4 rfl scLaw.nd upd_same ?_⟩))))
  cases dp_int dm
  have L6 := ((L4.nw n5).nw n6)
  have L7 := L6.nw (Nw.hop L6.S.i (same_new (o := .tup [.int N.n, vf]) htp))
  change WSs _ _ _ _ (upd H6 tp (.tup [.int N.n, vf]))
  generalize upd H6 tp (.tup [.int N.n, vf]) = H7 at L7
  have dn6 := Dpx dn (n5.f.trans n6.f)
  -- most
  obtain ⟨m, hm, few, em⟩ := most_of n1 n4'
  refine wss_cons (ws_set 5 scLaw.nd (YE.w (d := .int m) (ye_ixL (YL.ye (yl_lst (ds := [.int 9, .int 8, .int 6, .int 5]) (ya_cons ye_int (ya_cons ye_int (ya_cons ye_int (ya_cons ye_int ya_nil)))))) (ye_bin od_sub (yv 3 (Dp.int _)) ye_int) (atN (j := N.n - 1) (by omega) em)) L7.S.i fun vmo F8 H8 n8 dmo => ?_))
  cases dp_int dmo
  have L8 := L7.nw n8
  -- told
  refine wss_cons (ws_set 6 scLaw.nd (SE.w (l := l) (a := a') (se_call D4 (hr.mono (by decide)) (fun H Q z => we_var 1 z) (ya_cons (yv 2 (Dpx dn6 n8.f)) (ya_cons (yv 5 (Dp.int _)) ya_nil)) ⟨N, m, rfl, ok, by omega, rfl⟩) L8.S fun vt d F9 H9 n9 S9 pd dt => ?_))
  obtain ⟨t, rfl, tk⟩ := pd
  have L9 := L8.nx n9 S9
  exact law_5 T R ok tk hm (by rw [tk.len]; exact few) TB hr q L9 (.cons (Dpx dn6 (n8.f.trans n9.f)) (.cons (Dpx df (n8.f.trans n9.f)) (dpA_one dt)))
theorem ok_law (T : Top K mg) {C : Addr} (R : NoR K mg C) {cL PL fa : Addr} (TB : LamX.TabB base mg cL PL) {oc kV doc pm ct : Value} {od an : Option Addr} {osl : Array (Option Value)}
    (lk : K.lookup fa = some ⟨oc, od, .func (PySem.W.fnOf "law" "law" (defArgs (topS 50)) (defBody (topS 50)) (defScope (topS 50)) .none kV doc pm an (.ref cL) ct), osl⟩) (hcd : PySem.W.codeIn K (.ref cL) "law" = true) :
    FnOk P w K mg base L2.CX0 9 fa (PySem.W.fnOf "law" "law" (defArgs (topS 50)) (defBody (topS 50)) (defScope (topS 50)) .none kV doc pm an (.ref cL) ct) ["_law_script"] (spLaw K PL) := by
  refine fn_of lk hcd scLaw (fun vs H Q E h => ?_) fun A outer s H vs Q E hr hsp => ?_
  · obtain ⟨a, ns, rfl, _⟩ := h
    rfl
  · obtain ⟨a, ns, rfl, hS, hP, q⟩ := hsp
    exact ⟨_, (pss_ws (X := LX P w K mg base fa (.ref cL) A outer s H E)).nox, law_0 T R TB hr q hS hP⟩
end
end K10
set_option Elab.async false
set_option linter.all false
set_option maxRecDepth 100000
set_option maxHeartbeats 4000000
/-! The end: what the top leaves, told to the law. -/
namespace K10
open PySem PySem.Spec PyProof.Rows L2

/-- how a def's arguments bind -/
def BndP (x : Str) (st : Stmt) (ps : List Str) : Prop := ∀ (kV doc pm : Value) (an : Option Addr) (cdv ct : Value) (us : List Value), us.length = ps.length → bindArgs (PySem.W.fnOf x x (defArgs st) (defBody st) (defScope st) .none kV doc pm an cdv ct) ⟨us, []⟩ = pure (ps.zip us)
theorem bd13 : BndP "whole" (topS 13) ["value"] := fun _ _ _ _ _ _ us hl => match us, hl with | [_], _ => rfl
theorem bd14 : BndP "within" (topS 14) ["value", "low", "high"] := fun _ _ _ _ _ _ us hl => match us, hl with | [_, _, _], _ => rfl
theorem bd15 : BndP "need_number" (topS 15) ["value", "low", "high"] := fun _ _ _ _ _ _ us hl => match us, hl with | [_, _, _], _ => rfl
theorem bd16 : BndP "tuple_of" (topS 16) ["value", "low", "high"] := fun _ _ _ _ _ _ us hl => match us, hl with | [_, _, _], _ => rfl
theorem bd17 : BndP "is_rod" (topS 17) ["many", "value"] := fun _ _ _ _ _ _ us hl => match us, hl with | [_, _], _ => rfl
theorem bd18 : BndP "need_net" (topS 18) ["value"] := fun _ _ _ _ _ _ us hl => match us, hl with | [_], _ => rfl
theorem bd19 : BndP "need_place" (topS 19) ["net", "place"] := fun _ _ _ _ _ _ us hl => match us, hl with | [_, _], _ => rfl
theorem bd20 : BndP "need_told" (topS 20) ["net", "told"] := fun _ _ _ _ _ _ us hl => match us, hl with | [_, _], _ => rfl
theorem bd22 : BndP "table_of" (topS 22) ["net"] := fun _ _ _ _ _ _ us hl => match us, hl with | [_], _ => rfl
theorem bd24 : BndP "low" (topS 24) ["top", "bottom"] := fun _ _ _ _ _ _ us hl => match us, hl with | [_, _], _ => rfl
theorem bd27 : BndP "need_both" (topS 27) ["net", "told"] := fun _ _ _ _ _ _ us hl => match us, hl with | [_, _], _ => rfl
theorem bd28 : BndP "clash_of" (topS 28) ["table", "told"] := fun _ _ _ _ _ _ us hl => match us, hl with | [_, _], _ => rfl
theorem bd29 : BndP "clash" (topS 29) ["net", "told"] := fun _ _ _ _ _ _ us hl => match us, hl with | [_, _], _ => rfl
theorem bd30 : BndP "spans" (topS 30) ["table", "told", "most"] := fun _ _ _ _ _ _ us hl => match us, hl with | [_, _, _], _ => rfl
theorem bd31 : BndP "lowest" (topS 31) ["net", "told"] := fun _ _ _ _ _ _ us hl => match us, hl with | [_, _], _ => rfl
theorem bd32 : BndP "highest" (topS 32) ["net", "told", "most"] := fun _ _ _ _ _ _ us hl => match us, hl with | [_, _, _], _ => rfl
theorem bd33 : BndP "sure" (topS 33) ["net", "told", "most"] := fun _ _ _ _ _ _ us hl => match us, hl with | [_, _, _], _ => rfl
theorem bd34 : BndP "grown" (topS 34) ["table", "told", "most", "rows"] := fun _ _ _ _ _ _ us hl => match us, hl with | [_, _, _, _], _ => rfl
theorem bd35 : BndP "all_rows" (topS 35) ["table", "told", "most"] := fun _ _ _ _ _ _ us hl => match us, hl with | [_, _, _], _ => rfl
theorem bd36 : BndP "number_told" (topS 36) ["net", "told", "most"] := fun _ _ _ _ _ _ us hl => match us, hl with | [_, _, _], _ => rfl
theorem bd37 : BndP "mean_height" (topS 37) ["net", "told", "most", "place"] := fun _ _ _ _ _ _ us hl => match us, hl with | [_, _, _, _], _ => rfl
theorem bd38 : BndP "heights_at" (topS 38) ["net", "told", "most", "place"] := fun _ _ _ _ _ _ us hl => match us, hl with | [_, _, _, _], _ => rfl
theorem bd40 : BndP "_law_taken" (topS 40) ["_law_row", "_law_many"] := fun _ _ _ _ _ _ us hl => match us, hl with | [_, _], _ => rfl
theorem bd41 : BndP "_law_net" (topS 41) ["_law_row", "_law_most", "_law_long"] := fun _ _ _ _ _ _ us hl => match us, hl with | [_, _, _], _ => rfl
theorem bd42 : BndP "_law_pick" (topS 42) ["_law_row", "_law_things"] := fun _ _ _ _ _ _ us hl => match us, hl with | [_, _], _ => rfl
theorem bd43 : BndP "_law_far" (topS 43) ["_law_net_here"] := fun _ _ _ _ _ _ us hl => match us, hl with | [_], _ => rfl
theorem bd44 : BndP "_law_slope" (topS 44) ["_law_row", "_law_net_here", "_law_most"] := fun _ _ _ _ _ _ us hl => match us, hl with | [_, _, _], _ => rfl
theorem bd45 : BndP "_law_told_heights" (topS 45) ["_law_row", "_law_net_here", "_law_most"] := fun _ _ _ _ _ _ us hl => match us, hl with | [_, _, _], _ => rfl
theorem bd46 : BndP "_law_alike" (topS 46) ["_law_found", "_law_due"] := fun _ _ _ _ _ _ us hl => match us, hl with | [_, _], _ => rfl
theorem bd47 : BndP "_law_slopes" (topS 47) ["_law_far_here", "_law_most"] := fun _ _ _ _ _ _ us hl => match us, hl with | [_, _], _ => rfl
theorem bd48 : BndP "_law_tried" (topS 48) ["_law_work"] := fun _ _ _ _ _ _ us hl => match us, hl with | [_], _ => rfl
theorem bd49 : BndP "_law_ratio" (topS 49) ["_law_top", "_law_bottom"] := fun _ _ _ _ _ _ us hl => match us, hl with | [_, _], _ => rfl
theorem bd50 : BndP "law" (topS 50) ["_law_script"] := fun _ _ _ _ _ _ us hl => match us, hl with | [_], _ => rfl
/-- a def of the text stands in the fragment -/
def FAt (K : PySem.W.Frag) (x : Str) (st : Stmt) : Prop := ∃ (f : Addr) (oc : Value) (od : Option Addr) (kV doc pm : Value) (an : Option Addr) (cdv ct : Value) (osl : Array (Option Value)),
  PySem.W.nsIn K mainGlobals x = some (some (.ref f)) ∧ K.lookup f = some ⟨oc, od, .func (PySem.W.fnOf x x (defArgs st) (defBody st) (defScope st) .none kV doc pm an cdv ct), osl⟩ ∧ PySem.W.codeIn K cdv x = true ∧ PySem.W.keepIn K (.ref f) = true
theorem fAt_mk {K : PySem.W.Frag} {x : Str} {st : Stmt} {f : Addr} {oc : Value} {od : Option Addr} {kV doc pm : Value} {an : Option Addr} {cdv ct : Value} {osl : Array (Option Value)} (a : PySem.W.nsIn K mainGlobals x = some (some (.ref f)))
    (l : K.lookup f = some ⟨oc, od, .func (PySem.W.fnOf x x (defArgs st) (defBody st) (defScope st) .none kV doc pm an cdv ct), osl⟩) (c : PySem.W.codeIn K cdv x = true) (k : PySem.W.keepIn K (.ref f) = true) : FAt K x st := ⟨f, oc, od, kV, doc, pm, an, cdv, ct, osl, a, l, c, k⟩
section
variable {K : PySem.W.Frag} {h : Heap} {mg : Str → Option Value}
theorem FAt.at (X : K.In h) (G : h.Ns mainGlobals mg) {x : Str} {st : Stmt} {ps : List Str} (F : FAt K x st) (b : BndP x st ps) : At K mg x st ps := by
  obtain ⟨f, oc, od, kV, doc, pm, an, cdv, ct, osl, a, l, c, k⟩ := F
  have FF := fun_mk l c k
  exact ⟨f, _, PySem.W.mg_of X G a, FF, FF.binds b⟩
theorem top_mk (X : K.In h) (G : h.Ns mainGlobals mg) {t1 t2 t3 t4 : Tok}
    (n_isi : PySem.W.nsIn K mainGlobals "isinstance" = some none)
    (n_int : PySem.W.nsIn K mainGlobals "int" = some none)
    (n_bool : PySem.W.nsIn K mainGlobals "bool" = some none)
    (n_tuple : PySem.W.nsIn K mainGlobals "tuple" = some none)
    (n_list : PySem.W.nsIn K mainGlobals "list" = some none)
    (n_str : PySem.W.nsIn K mainGlobals "str" = some none)
    (n_len : PySem.W.nsIn K mainGlobals "len" = some none)
    (n_range : PySem.W.nsIn K mainGlobals "range" = some none)
    (n_enum : PySem.W.nsIn K mainGlobals "enumerate" = some none)
    (n_min : PySem.W.nsIn K mainGlobals "min" = some none)
    (n_max : PySem.W.nsIn K mainGlobals "max" = some none)
    (n_sum : PySem.W.nsIn K mainGlobals "sum" = some none)
    (n_any : PySem.W.nsIn K mainGlobals "any" = some none)
    (n_all : PySem.W.nsIn K mainGlobals "all" = some none)
    (n_abs : PySem.W.nsIn K mainGlobals "abs" = some none)
    (n_zip : PySem.W.nsIn K mainGlobals "zip" = some none)
    (n_sorted : PySem.W.nsIn K mainGlobals "sorted" = some none)
    (e_gcd : PySem.W.nsIn K mainGlobals "gcd" = some (some (.builtin "math.gcd")))
    (e_1 : PySem.W.nsIn K mainGlobals "MOST_PLACES" = some (some (.int 8 t1)))
    (e_2 : PySem.W.nsIn K mainGlobals "MOST_LENGTH" = some (some (.int 9 t2)))
    (e_3 : PySem.W.nsIn K mainGlobals "MOST_HEIGHT" = some (some (.int 99 t3)))
    (e_4 : PySem.W.nsIn K mainGlobals "MOST_ROWS" = some (some (.int 20000 t4)))
    (f13 : FAt K "whole" (topS 13))
    (f14 : FAt K "within" (topS 14))
    (f15 : FAt K "need_number" (topS 15))
    (f16 : FAt K "tuple_of" (topS 16))
    (f17 : FAt K "is_rod" (topS 17))
    (f18 : FAt K "need_net" (topS 18))
    (f19 : FAt K "need_place" (topS 19))
    (f20 : FAt K "need_told" (topS 20))
    (f22 : FAt K "table_of" (topS 22))
    (f24 : FAt K "low" (topS 24))
    (f27 : FAt K "need_both" (topS 27))
    (f28 : FAt K "clash_of" (topS 28))
    (f29 : FAt K "clash" (topS 29))
    (f30 : FAt K "spans" (topS 30))
    (f31 : FAt K "lowest" (topS 31))
    (f32 : FAt K "highest" (topS 32))
    (f33 : FAt K "sure" (topS 33))
    (f34 : FAt K "grown" (topS 34))
    (f35 : FAt K "all_rows" (topS 35))
    (f36 : FAt K "number_told" (topS 36))
    (f37 : FAt K "mean_height" (topS 37))
    (f38 : FAt K "heights_at" (topS 38))
    (f40 : FAt K "_law_taken" (topS 40))
    (f41 : FAt K "_law_net" (topS 41))
    (f42 : FAt K "_law_pick" (topS 42))
    (f43 : FAt K "_law_far" (topS 43))
    (f44 : FAt K "_law_slope" (topS 44))
    (f45 : FAt K "_law_told_heights" (topS 45))
    (f46 : FAt K "_law_alike" (topS 46))
    (f47 : FAt K "_law_slopes" (topS 47))
    (f48 : FAt K "_law_tried" (topS 48))
    (f49 : FAt K "_law_ratio" (topS 49))
    : Top K mg where
  isi := PySem.W.mg_none_of X G n_isi
  int := PySem.W.mg_none_of X G n_int
  bool := PySem.W.mg_none_of X G n_bool
  tuple := PySem.W.mg_none_of X G n_tuple
  list := PySem.W.mg_none_of X G n_list
  str := PySem.W.mg_none_of X G n_str
  len := PySem.W.mg_none_of X G n_len
  range := PySem.W.mg_none_of X G n_range
  enum := PySem.W.mg_none_of X G n_enum
  min := PySem.W.mg_none_of X G n_min
  max := PySem.W.mg_none_of X G n_max
  sum := PySem.W.mg_none_of X G n_sum
  any := PySem.W.mg_none_of X G n_any
  all := PySem.W.mg_none_of X G n_all
  abs := PySem.W.mg_none_of X G n_abs
  zip := PySem.W.mg_none_of X G n_zip
  sorted := PySem.W.mg_none_of X G n_sorted
  gcd := PySem.W.mg_of X G e_gcd
  mPlaces := ⟨_, PySem.W.mg_of X G e_1⟩
  mLength := ⟨_, PySem.W.mg_of X G e_2⟩
  mHeight := ⟨_, PySem.W.mg_of X G e_3⟩
  mRows := ⟨_, PySem.W.mg_of X G e_4⟩
  aWhole := f13.at X G bd13
  aWithin := f14.at X G bd14
  aNeedN := f15.at X G bd15
  aTupleOf := f16.at X G bd16
  aIsRod := f17.at X G bd17
  aNeedNet := f18.at X G bd18
  aNeedPlace := f19.at X G bd19
  aNeedTold := f20.at X G bd20
  aTable := f22.at X G bd22
  aLow := f24.at X G bd24
  aBoth := f27.at X G bd27
  aClashOf := f28.at X G bd28
  aClash := f29.at X G bd29
  aSpans := f30.at X G bd30
  aLowest := f31.at X G bd31
  aHighest := f32.at X G bd32
  aSure := f33.at X G bd33
  aGrown := f34.at X G bd34
  aAllRows := f35.at X G bd35
  aNumber := f36.at X G bd36
  aMean := f37.at X G bd37
  aHeights := f38.at X G bd38
  aTaken := f40.at X G bd40
  aLNet := f41.at X G bd41
  aPick := f42.at X G bd42
  aLFar := f43.at X G bd43
  aSlope := f44.at X G bd44
  aToldH := f45.at X G bd45
  aAlike := f46.at X G bd46
  aSlopes := f47.at X G bd47
  aTried := f48.at X G bd48
  aRatio := f49.at X G bd49
end
/-- the end of a law with lambdas, told by what the top has left -/
theorem walk_end {l : PySem.W.OpenLaw} {n k : Nat} {q : Program} {loose : List Str} {XP : (Str → Option Value) → Heap → Prop} {YP : World → Heap → Prop} {d : DefRec} {K : Params → PySem.W.Frag} {x : Str}
    (hn : l.most = some n) (hn2 : n ≤ sizeLine) (hdf : d.params.defaults = []) (hr : Room k callerA) (hY : ∀ (w : World) (h : Heap), YP w h → (K w.params).In h)
    (F : ∀ (w : World) (s₀ : Shared) (mg mb : Str → Option Value) (fa : Addr) (h : Heap), PySem.W.Ground q loose [] XP w s₀ mg mb h → (K w.params).In h → mg d.name = some (.ref fa) → LamX.LawAtS l w (K w.params) L2.CX0 k n x mg fa h) :
    PySem.W.WalkO q loose XP YP l.row.toRowW d [] (fun f vs => PySem.call f vs) := by
  refine Att.attach_callB hn hdf fun w s₀ s₁ mg mb fa o pm cd doc a vs ns G Y ho hd hcd hmg hobj hints hlen hbits hg => ?_
  have KX := hY w _ Y
  obtain ⟨fd, cs, sp, hT, nT, C, hb, hsp, hF⟩ := F w s₀ mg mb fa _ G KX hmg
  exact LamX.law_callTs KX G.T.g G.T.b G.T.builtins G.T.nolimit hg hT nT C G.T.bmain hobj hints (Nat.le_trans hlen hn2) hr hF hb (fun H hH hS => hsp H a ns hlen hbits hH hS) fun _ _ _ z => z
theorem exm_own {K : PySem.W.Frag} {C : Addr} (b : PySem.W.subIn K (.ref C) (.type "BaseException") = some true) (c : PySem.W.isClsIn K C = true) (t : PySem.W.typeIn K (.ref C) = some (.type "type")) (s : PySem.W.subIn K (.ref C) (.ref C) = some true) : PySem.W.exmOne K (.ref C) (.ref C) = some true := by
  have c2 : (PySem.W.clsIn K C).isSome = true := c
  unfold PySem.W.exmOne
  rw [if_pos (by rw [b]; rfl)]
  unfold PySem.W.kitCls
  dsimp only
  rw [if_pos (by rw [c2, t]; rfl)]
  exact s
theorem tabIn_of {K : PySem.W.Frag} {x : Str} {f c P : Addr} {oc oc2 : Value} {od od2 : Option Addr} {fd : FuncData} {osl osl2 : Array (Option Value)} {vs : Array Value} (aL : PySem.W.nsIn K mainGlobals x = some (some (.ref f))) (lL : K.lookup f = some ⟨oc, od, .func fd, osl⟩) (hc : fd.code = .ref c)
    (lC : K.lookup c = some ⟨oc2, od2, .fields vs, osl2⟩) (hv : vs[11]? = some (.ref P)) : PySem.W.tabIn K x = some (c, P) := by
  unfold PySem.W.tabIn
  rw [aL]
  dsimp only
  rw [lL]
  dsimp only
  rw [hc]
  dsimp only
  rw [lC]
  dsimp only
  rw [hv]
theorem law_at {l : PySem.W.OpenLaw} {w : World} {oc2 : Value} {od2 : Option Addr} {osl2 : Array (Option Value)} {vs : Array Value} {K : PySem.W.Frag} {mg : Str → Option Value} {fa fL cL PL C : Addr} {h : Heap} {n : Nat} (X : K.In h) (G : h.Ns mainGlobals mg) (hfa : mg "law" = some (.ref fa)) (T : Top K mg) (R : NoR K mg C)
    {oc kV doc pm ct : Value} {od an : Option Addr} {osl : Array (Option Value)} (aL : PySem.W.nsIn K mainGlobals "law" = some (some (.ref fL)))
    (lL : K.lookup fL = some ⟨oc, od, .func (PySem.W.fnOf "law" "law" (defArgs (topS 50)) (defBody (topS 50)) (defScope (topS 50)) .none kV doc pm an (.ref cL) ct), osl⟩) (hcd : PySem.W.codeIn K (.ref cL) "law" = true)
    (lC : K.lookup cL = some ⟨oc2, od2, .fields vs, osl2⟩) (hv : vs[11]? = some (.ref PL)) (nP : K.lookup PL = none) (tab : PySem.W.tabIn K "law" = some (cL, PL) → PySem.W.CodeHd h cL PL ∧ h.get? PL = some { cls := .none, data := .fields #[] }) : LamX.LawAtS l w K L2.CX0 9 n "_law_script" mg fa h := by
  have e := hfa.symm.trans (PySem.W.mg_of X G aL)
  obtain ⟨hc, hP⟩ := tab (tabIn_of aL lL rfl lC hv)
  cases e
  refine ⟨_, [(cL, PL)], spLaw K PL, fun p hp => ?_, fun p hp => ?_, fun p hp => ?_, fun s u => ?_, fun H a ns _ _ hH hS => ⟨a, ns, rfl, hS, hH _ List.mem_cons_self, fun _ => rfl⟩, fun base hK hN hT => ok_law T R (hT _ List.mem_cons_self) lL hcd⟩
  · rw [List.mem_singleton.mp hp]; exact hP
  · rw [List.mem_singleton.mp hp]; exact nP
  · rw [List.mem_singleton.mp hp]; exact hc
  · exact .of_eq (bd50 _ _ _ _ _ _ [u] rfl)
end K10
open PySem PySem.W PyProof.Rows
set_option Elab.async false
set_option maxRecDepth 100000
set_option maxHeartbeats 0
open_top k10head for PySem.Challenge.rw_littowers_k10_whole_extensions
set_option Elab.async false
set_option linter.all false
open PySem PySem.W PyProof.Rows
set_option maxRecDepth 100000 in
set_option maxHeartbeats 0 in
theorem PySem.Challenge.cw_littowers_k10_whole_extensions_holds : PySem.Challenge.rw_littowers_k10_whole_extensions.Holds :=
  k10head (by
    k_fill
    refine K10.walk_end (n := 63) (k := 9) (x := "_law_script") rfl (by decide) rfl ⟨rfl, by decide, by decide⟩ (fun w h Y => PySem.W.km_in_of Y) ?F
    intro w s₀ mg mb fa h G KX hmg
    have T := G.T
    refine' K10.law_at KX G.T.g hmg ?T ?R ?aL ?lL ?cL ?lC ?hv ?nP ?tab
    (case aL => k_is)
    (case lL => k_is)
    (case cL => k_is)
    (case lC => k_is)
    (case hv => rfl)
    (case T =>
      refine' K10.top_mk KX G.T.g ?n_isi ?n_int ?n_bool ?n_tuple ?n_list ?n_str ?n_len ?n_range ?n_enum ?n_min ?n_max ?n_sum ?n_any ?n_all ?n_abs ?n_zip ?n_sorted ?e_gcd ?e_1 ?e_2 ?e_3 ?e_4 ?f13 ?f14 ?f15 ?f16 ?f17 ?f18 ?f19 ?f20 ?f22 ?f24 ?f27 ?f28 ?f29 ?f30 ?f31 ?f32 ?f33 ?f34 ?f35 ?f36 ?f37 ?f38 ?f40 ?f41 ?f42 ?f43 ?f44 ?f45 ?f46 ?f47 ?f48 ?f49
      (case n_isi => k_is)
      (case n_int => k_is)
      (case n_bool => k_is)
      (case n_tuple => k_is)
      (case n_list => k_is)
      (case n_str => k_is)
      (case n_len => k_is)
      (case n_range => k_is)
      (case n_enum => k_is)
      (case n_min => k_is)
      (case n_max => k_is)
      (case n_sum => k_is)
      (case n_any => k_is)
      (case n_all => k_is)
      (case n_abs => k_is)
      (case n_zip => k_is)
      (case n_sorted => k_is)
      (case e_gcd => k_is)
      (case e_1 => k_is)
      (case e_2 => k_is)
      (case e_3 => k_is)
      (case e_4 => k_is)
      (case f13 => (refine' K10.fAt_mk ?a ?l ?c ?k; (case a => k_is); (case l => k_is); (case c => k_is); (case k => k_is)))
      (case f14 => (refine' K10.fAt_mk ?a ?l ?c ?k; (case a => k_is); (case l => k_is); (case c => k_is); (case k => k_is)))
      (case f15 => (refine' K10.fAt_mk ?a ?l ?c ?k; (case a => k_is); (case l => k_is); (case c => k_is); (case k => k_is)))
      (case f16 => (refine' K10.fAt_mk ?a ?l ?c ?k; (case a => k_is); (case l => k_is); (case c => k_is); (case k => k_is)))
      (case f17 => (refine' K10.fAt_mk ?a ?l ?c ?k; (case a => k_is); (case l => k_is); (case c => k_is); (case k => k_is)))
      (case f18 => (refine' K10.fAt_mk ?a ?l ?c ?k; (case a => k_is); (case l => k_is); (case c => k_is); (case k => k_is)))
      (case f19 => (refine' K10.fAt_mk ?a ?l ?c ?k; (case a => k_is); (case l => k_is); (case c => k_is); (case k => k_is)))
      (case f20 => (refine' K10.fAt_mk ?a ?l ?c ?k; (case a => k_is); (case l => k_is); (case c => k_is); (case k => k_is)))
      (case f22 => (refine' K10.fAt_mk ?a ?l ?c ?k; (case a => k_is); (case l => k_is); (case c => k_is); (case k => k_is)))
      (case f24 => (refine' K10.fAt_mk ?a ?l ?c ?k; (case a => k_is); (case l => k_is); (case c => k_is); (case k => k_is)))
      (case f27 => (refine' K10.fAt_mk ?a ?l ?c ?k; (case a => k_is); (case l => k_is); (case c => k_is); (case k => k_is)))
      (case f28 => (refine' K10.fAt_mk ?a ?l ?c ?k; (case a => k_is); (case l => k_is); (case c => k_is); (case k => k_is)))
      (case f29 => (refine' K10.fAt_mk ?a ?l ?c ?k; (case a => k_is); (case l => k_is); (case c => k_is); (case k => k_is)))
      (case f30 => (refine' K10.fAt_mk ?a ?l ?c ?k; (case a => k_is); (case l => k_is); (case c => k_is); (case k => k_is)))
      (case f31 => (refine' K10.fAt_mk ?a ?l ?c ?k; (case a => k_is); (case l => k_is); (case c => k_is); (case k => k_is)))
      (case f32 => (refine' K10.fAt_mk ?a ?l ?c ?k; (case a => k_is); (case l => k_is); (case c => k_is); (case k => k_is)))
      (case f33 => (refine' K10.fAt_mk ?a ?l ?c ?k; (case a => k_is); (case l => k_is); (case c => k_is); (case k => k_is)))
      (case f34 => (refine' K10.fAt_mk ?a ?l ?c ?k; (case a => k_is); (case l => k_is); (case c => k_is); (case k => k_is)))
      (case f35 => (refine' K10.fAt_mk ?a ?l ?c ?k; (case a => k_is); (case l => k_is); (case c => k_is); (case k => k_is)))
      (case f36 => (refine' K10.fAt_mk ?a ?l ?c ?k; (case a => k_is); (case l => k_is); (case c => k_is); (case k => k_is)))
      (case f37 => (refine' K10.fAt_mk ?a ?l ?c ?k; (case a => k_is); (case l => k_is); (case c => k_is); (case k => k_is)))
      (case f38 => (refine' K10.fAt_mk ?a ?l ?c ?k; (case a => k_is); (case l => k_is); (case c => k_is); (case k => k_is)))
      (case f40 => (refine' K10.fAt_mk ?a ?l ?c ?k; (case a => k_is); (case l => k_is); (case c => k_is); (case k => k_is)))
      (case f41 => (refine' K10.fAt_mk ?a ?l ?c ?k; (case a => k_is); (case l => k_is); (case c => k_is); (case k => k_is)))
      (case f42 => (refine' K10.fAt_mk ?a ?l ?c ?k; (case a => k_is); (case l => k_is); (case c => k_is); (case k => k_is)))
      (case f43 => (refine' K10.fAt_mk ?a ?l ?c ?k; (case a => k_is); (case l => k_is); (case c => k_is); (case k => k_is)))
      (case f44 => (refine' K10.fAt_mk ?a ?l ?c ?k; (case a => k_is); (case l => k_is); (case c => k_is); (case k => k_is)))
      (case f45 => (refine' K10.fAt_mk ?a ?l ?c ?k; (case a => k_is); (case l => k_is); (case c => k_is); (case k => k_is)))
      (case f46 => (refine' K10.fAt_mk ?a ?l ?c ?k; (case a => k_is); (case l => k_is); (case c => k_is); (case k => k_is)))
      (case f47 => (refine' K10.fAt_mk ?a ?l ?c ?k; (case a => k_is); (case l => k_is); (case c => k_is); (case k => k_is)))
      (case f48 => (refine' K10.fAt_mk ?a ?l ?c ?k; (case a => k_is); (case l => k_is); (case c => k_is); (case k => k_is)))
      (case f49 => (refine' K10.fAt_mk ?a ?l ?c ?k; (case a => k_is); (case l => k_is); (case c => k_is); (case k => k_is))))
    (case R => 
      refine' ⟨PySem.W.mg_of KX G.T.g ?g, ?x, ?k, ?b, ?t, ?e⟩
      (case g => k_is)
      (case x => k_exc)
      (case k => k_is)
      (case b => k_is)
      (case t => k_is)
      (case e => refine' K10.exm_own ?e1 ?e2 ?e3 ?e4; (case e1 => k_is); (case e2 => k_is); (case e3 => k_is); (case e4 => first | rfl | k_is)))
    (case tab => exact fun z => PySem.W.tab_of (x := "law") G.T KX rfl z)
    (case nP => first | kernel_rfl | rfl | with_unfolding_all rfl))
